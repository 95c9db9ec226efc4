import PyProof.Rows.All
import Wide.All
import OpenK.AllK
import Wide.FinOn
import KE.KStateDown
import HandS.ForMost
import HandS.Defaults
import HandS.Property
import HandS.Head0
import HandS.Head1
import HandS.Head2
import HandS.HeadEnd
import HandS.HeadHook1
import HandS.HeadHook2
import HandS.TupAny
import HandS.Star
import HandS.IsInst
import HandS.Exc
import HandS.Walk
import PyProof.TupleOfStr
import HandS.Style
import HandS.Conv
import HandS.Dict
import HandS.Iter
import PyProof.InstNe
import HandS.OwnEq
import PyProof.AssignAttr
import PySem.Challenge.RW_peaksums_k67_whole_some_one_fits_or_none
import HandS.Zip
import HandS.Flow
import PyProof.Rows.SetFrom
import PyProof.EqAt
import PyProof.EqKinds
import PyProof.TupleCall
import HandS.Set
import HandS.SetFor
import HandS.Strs
import HandS.SetTxt0
import PyProof.ListNew
import KE.KDictZip
import KE.GoesEnum
import KE.GoesZip
import KE.GoesMore
import HandS.MapObj
import HandS.DictTup
import HandS.RevTup
import KE.SortData
import KE.DataMinMax
import PyProof.SeqRoads2
import HandS.Rev
import HandS.ListItems

set_option Elab.async false
set_option linter.all false
set_option maxRecDepth 100000
set_option maxHeartbeats 4000000
/-! Pk0: values over a base heap: what an expression gives, whatever stands beside. -/
namespace Pk
open PySem PySem.Spec PyProof.Rows L2

/-! ### worlds: what may be changed besides what is new -/
structure Wd where
  S : Addr → Prop
  W : Nat → Hp → Prop
  mono : ∀ n m H, n ≤ m → W n H → W m H
  stab : ∀ n H H', (∀ a, S a → H' a = H a) → W n H → W n H'
  has : ∀ n H a, W n H → S a → H a ≠ none

/-- nothing may be changed -/
def w0 : Wd where
  S := fun _ => False
  W := fun _ _ => True
  mono := fun _ _ _ _ h => h
  stab := fun _ _ _ _ h => h
  has := fun _ _ _ _ h => h.elim

structure Gr (S : Addr → Prop) (B H B' H' : Hp) : Prop where
  ex : Same B B'
  keep : ∀ a o, ¬ S a → H a = some o → H' a = some o
  has : ∀ a, H a ≠ none → H' a ≠ none
  fr : ∀ a, B' a ≠ none → B a ≠ none ∨ H a = none

structure Ctx (w : Wd) (n : Nat) (B H : Hp) : Prop where
  sub : Same B H
  cl : ∀ a, w.S a → B a = none
  wd : w.W n H

theorem Gr.refl {S : Addr → Prop} {B H : Hp} : Gr S B H B H := ⟨Same.refl B, fun _ _ _ h => h, fun _ h => h, fun _ h => .inl h⟩
theorem Gr.trans {S : Addr → Prop} {B H B1 H1 B2 H2 : Hp} (a : Gr S B H B1 H1) (b : Gr S B1 H1 B2 H2) : Gr S B H B2 H2 where
  ex := a.ex.trans b.ex
  keep := fun x o h e => b.keep x o h (a.keep x o h e)
  has := fun x h => b.has x (a.has x h)
  fr := fun x h => by
    rcases b.fr x h with h | h
    · exact a.fr x h
    · refine .inr ?_
      cases e : H x with
      | none => rfl
      | some o => exact absurd h (a.has x (by rw [e]; exact Option.some_ne_none o))
theorem Gr.lift {S : Addr → Prop} {B H B1 H1 : Hp} (a : Gr (fun _ => False) B H B1 H1) : Gr S B H B1 H1 := ⟨a.ex, fun x o _ e => a.keep x o (fun z => z) e, a.has, a.fr⟩
theorem ne_some {α : Type} {x : Option α} (h : x ≠ none) : ∃ o, x = some o := by
  cases x with
  | none => exact absurd rfl h
  | some o => exact ⟨o, rfl⟩
theorem Ctx.at0 {B H : Hp} {n : Nat} (h : Same B H) : Ctx w0 n B H := ⟨h, fun _ z => z.elim, True.intro⟩
theorem Ctx.le {w : Wd} {n m : Nat} {B H : Hp} (c : Ctx w n B H) (h : n ≤ m) : Ctx w m B H := ⟨c.sub, c.cl, w.mono n m H h c.wd⟩
/-- a step that leaves the world as it is -/
theorem Ctx.step0 {w : Wd} {n : Nat} {B H B1 H1 : Hp} (c : Ctx w n B H) (g : Gr (fun _ => False) B H B1 H1) (hs : Same B1 H1) : Ctx w n B1 H1 where
  sub := hs
  cl := fun a ha => by
    cases e : B1 a with
    | none => rfl
    | some o =>
      rcases g.fr a (by rw [e]; exact Option.some_ne_none o) with h | h
      · exact absurd (c.cl a ha) h
      · exact absurd h (w.has n H a c.wd ha)
  wd := w.stab n H H1 (fun a ha => by
    obtain ⟨o, e⟩ := ne_some (w.has n H a c.wd ha)
    rw [e]
    exact g.keep a o (fun z => z) e) c.wd

/-! ### runs -/
def Go {α : Type} (w : Wd) (n m : Nat) (k : Hp → (α → Hp → Prop) → Prop) (B : Hp) (P : α → Hp → Prop) : Prop :=
  ∀ H, Ctx w n B H → ∀ Q : α → Hp → Prop, (∀ v B' H', Gr w.S B H B' H' → Ctx w m B' H' → P v B' → Q v H') → k H Q

section
variable {α β : Type} {w : Wd} {n m l : Nat} {B : Hp}
theorem Go.one {v : α} {P : α → Hp → Prop} (h : P v B) : Go w n n (fun H Q => Q v H) B P := fun H c Q q => q v B H Gr.refl c h
theorem Go.bind {k : Hp → (α → Hp → Prop) → Prop} {f : α → Hp → (β → Hp → Prop) → Prop} {P : α → Hp → Prop} {R : β → Hp → Prop} (h : Go w n m k B P)
    (h2 : ∀ x B1, Same B B1 → P x B1 → Go w m l (f x) B1 R) : Go w n l (fun H Q => k H fun x H1 => f x H1 Q) B R := fun H c Q q =>
  h H c _ fun x B1 H1 g1 c1 p1 => h2 x B1 g1.ex p1 H1 c1 Q fun y B2 H2 g2 c2 p2 => q y B2 H2 (g1.trans g2) c2 p2
theorem Go.imp {k : Hp → (α → Hp → Prop) → Prop} {P P' : α → Hp → Prop} (h : Go w n m k B P) (hp : ∀ v B', Same B B' → P v B' → P' v B') : Go w n m k B P' := fun H c Q q =>
  h H c Q fun v B' H' g c' p => q v B' H' g c' (hp v B' g.ex p)
theorem Go.le {k : Hp → (α → Hp → Prop) → Prop} {P : α → Hp → Prop} (h : Go w n m k B P) (hm : m ≤ l) : Go w n l k B P := fun H c Q q =>
  h H c Q fun v B' H' g c' p => q v B' H' g (c'.le hm) p
theorem Go.lift {k : Hp → (α → Hp → Prop) → Prop} {P : α → Hp → Prop} (h : Go w0 0 0 k B P) : Go w n n k B P := fun H c Q q =>
  h H (Ctx.at0 c.sub) Q fun v B' H' g c' p => q v B' H' g.lift (c.step0 g c'.sub) p
/-- a new object, put into the base -/
theorem Go.newO {f : Addr → α} {o : HO} {P : α → Hp → Prop} (h : ∀ p, B p = none → P (f p) (upd B p o)) : Go w n n (fun H Q => ∀ p, H p = none → Q (f p) (upd H p o)) B P := fun H c Q q p hp => by
  have bp : B p = none := c.sub.free hp
  refine q (f p) (upd B p o) (upd H p o) ⟨?_, ?_, ?_, ?_⟩ ⟨?_, ?_, ?_⟩ (h p bp)
  · exact fun a u e => by rw [upd_ne (ne_of_none e bp)]; exact e
  · exact fun a u _ e => by rw [upd_ne (ne_of_none e hp)]; exact e
  · intro a e
    obtain ⟨u, e⟩ := ne_some e
    rw [upd_ne (ne_of_none e hp), e]
    exact Option.some_ne_none u
  · intro a e
    by_cases ha : a = p
    · exact .inr (by rw [ha]; exact hp)
    · rw [upd_ne ha] at e
      exact .inl e
  · intro a u e
    by_cases ha : a = p
    · rw [ha, upd_same] at e ⊢
      exact e
    · rw [upd_ne ha] at e ⊢
      exact c.sub a u e
  · intro a ha
    have e := w.has n H a c.wd ha
    have hne : a ≠ p := fun z => e (by rw [z]; exact hp)
    rw [upd_ne hne]
    exact c.cl a ha
  · exact w.stab n H _ (fun a ha => by
      have e := w.has n H a c.wd ha
      exact upd_ne fun z => e (by rw [z]; exact hp)) c.wd
end

/-! ### what is said of a value: it stands when the base grows -/
structure Pr where
  p : V → Hp → Prop
  mono : ∀ v B B', Same B B' → p v B → p v B'

theorem sqL_same {K : PySem.W.Frag} {H H' : Hp} {a : Addr} {xs : List V} (e : Same H H') (h : SqL K H a xs) : SqL K H' a xs := e.seq h
theorem sqT_same {K : PySem.W.Frag} {H H' : Hp} {a : Addr} {xs : List V} (e : Same H H') (h : SqT K H a xs) : SqT K H' a xs := by
  rcases h with (h | ⟨o, h⟩) | h
  · exact .inl (.inl (e _ _ h))
  · exact .inl (.inr ⟨o, e _ _ h⟩)
  · exact .inr h
section
variable {K : PySem.W.Frag} {H H' : Hp}
mutual
theorem dp_same (e : Same H H') : ∀ (d : PyData) (v : V), Dp K H v d → Dp K H' v d
  | .none, _, h => by cases h; exact .non
  | .bool b, _, h => by cases h; exact .bl b
  | .int i, _, h => by cases h; exact .int i
  | .str x, _, h => by cases h; exact .str x
  | .list ds, _, h => by
    cases h with
    | lst hs ha => exact .lst (sqL_same e hs) (dpAll_same e ds _ ha)
  | .tuple ds, _, h => by
    cases h with
    | tup hs ha => exact .tup (sqT_same e hs) (dpAll_same e ds _ ha)
  | .dict _, _, h => by cases h
theorem dpAll_same (e : Same H H') : ∀ (ds : List PyData) (vs : List V), DpAll K H vs ds → DpAll K H' vs ds
  | [], _, h => by cases h; exact .nil
  | d :: ds, _, h => by
    cases h with
    | cons h1 h2 => exact .cons (dp_same e d _ h1) (dpAll_same e ds _ h2)
end
end

/-- data: none, bools, ints, texts, lists, tuples at any depth -/
def DD (K : PySem.W.Frag) (d : PyData) : Pr := ⟨fun v B => Dp K B v d, fun _ _ _ e h => dp_same e _ _ h⟩
abbrev PsAt (vs : List V) (Ps : List Pr) (B : Hp) : Prop := Paired (fun v (P : Pr) => P.p v B) vs Ps
theorem psAt_same {vs : List V} {Ps : List Pr} {B B' : Hp} (e : Same B B') (h : PsAt vs Ps B) : PsAt vs Ps B' := by
  induction h with
  | nil => exact .nil
  | cons r _ ih => exact .cons (Pr.mono _ _ _ _ e r) ih
/-- a list of such things, a tuple of such things -/
def LiP (K : PySem.W.Frag) (Ps : List Pr) : Pr := ⟨fun v B => ∃ a vs, v = .ref a ∧ SqL K B a vs ∧ PsAt vs Ps B, fun _ _ _ e ⟨a, vs, h1, h2, h3⟩ => ⟨a, vs, h1, sqL_same e h2, psAt_same e h3⟩⟩
def TuP (K : PySem.W.Frag) (Ps : List Pr) : Pr := ⟨fun v B => ∃ a vs, v = .ref a ∧ SqT K B a vs ∧ PsAt vs Ps B, fun _ _ _ e ⟨a, vs, h1, h2, h3⟩ => ⟨a, vs, h1, sqT_same e h2, psAt_same e h3⟩⟩
/-- just this value -/
def VV (u : V) : Pr := ⟨fun v _ => v = u, fun _ _ _ _ h => h⟩

section
variable {K : PySem.W.Frag} {B : Hp}
theorem psAt_dpAll : ∀ {vs : List V} {ds : List PyData}, PsAt vs (ds.map (DD K)) B → DpAll K B vs ds
  | _, [], h => by cases h; exact .nil
  | _, d :: ds, h => by
    cases h with
    | cons r t => exact .cons r (psAt_dpAll t)
theorem dpAll_psAt : ∀ {vs : List V} {ds : List PyData}, DpAll K B vs ds → PsAt vs (ds.map (DD K)) B
  | _, [], h => by cases h; exact .nil
  | _, d :: ds, h => by
    cases h with
    | cons r t => exact .cons r (dpAll_psAt t)
theorem ll_dd {v : V} {ds : List PyData} (h : (LiP K (ds.map (DD K))).p v B) : (DD K (.list ds)).p v B := by
  obtain ⟨a, vs, rfl, h1, h2⟩ := h
  exact .lst h1 (psAt_dpAll h2)
theorem tt_dd {v : V} {ds : List PyData} (h : (TuP K (ds.map (DD K))).p v B) : (DD K (.tuple ds)).p v B := by
  obtain ⟨a, vs, rfl, h1, h2⟩ := h
  exact .tup h1 (psAt_dpAll h2)
theorem dd_ll {v : V} {ds : List PyData} (h : (DD K (.list ds)).p v B) : (LiP K (ds.map (DD K))).p v B := by
  cases (show Dp K B v (.list ds) from h) with
  | lst h1 h2 => exact ⟨_, _, rfl, h1, dpAll_psAt h2⟩
theorem dd_tt {v : V} {ds : List PyData} (h : (DD K (.tuple ds)).p v B) : (TuP K (ds.map (DD K))).p v B := by
  cases (show Dp K B v (.tuple ds) from h) with
  | tup h1 h2 => exact ⟨_, _, rfl, h1, dpAll_psAt h2⟩
theorem dd_str {v : V} {x : Str} (h : (DD K (.str x)).p v B) : v = .str x := by cases (show Dp K B v (.str x) from h); rfl
theorem dd_int {v : V} {x : Int} (h : (DD K (.int x)).p v B) : v = .int x := by cases (show Dp K B v (.int x) from h); rfl
theorem dd_bool {v : V} {x : Bool} (h : (DD K (.bool x)).p v B) : v = .bl x := by cases (show Dp K B v (.bool x) from h); rfl
theorem dd_none {v : V} (h : (DD K .none).p v B) : v = .non := by cases (show Dp K B v .none from h); rfl
theorem ps_get {vs : List V} {Ps : List Pr} (h : PsAt vs Ps B) : ∀ {i : Nat} {v : V}, vs[i]? = some v → ∃ P, Ps[i]? = some P ∧ P.p v B := by
  induction h with
  | nil => intro i v e; simp at e
  | cons r _ ih =>
    intro i v e
    cases i with
    | zero => simp at e; subst e; exact ⟨_, rfl, r⟩
    | succ i => simp at e; simpa using ih e
theorem ps_get' {vs : List V} {Ps : List Pr} (h : PsAt vs Ps B) : ∀ {i : Nat} {P : Pr}, Ps[i]? = some P → ∃ v, vs[i]? = some v ∧ P.p v B := by
  induction h with
  | nil => intro i v e; simp at e
  | cons r _ ih =>
    intro i v e
    cases i with
    | zero => simp at e; subst e; exact ⟨_, rfl, r⟩
    | succ i => simp at e; simpa using ih e
theorem ps_len {vs : List V} {Ps : List Pr} (h : PsAt vs Ps B) : vs.length = Ps.length := Paired.length h
theorem ps_snoc {vs : List V} {Ps : List Pr} {v : V} {P : Pr} (h : PsAt vs Ps B) (hv : P.p v B) : PsAt (vs ++ [v]) (Ps ++ [P]) B := by
  induction h with
  | nil => exact .cons hv .nil
  | cons r _ ih => exact .cons r ih
theorem ps_app {vs us : List V} {Ps Rs : List Pr} (h : PsAt vs Ps B) (h2 : PsAt us Rs B) : PsAt (vs ++ us) (Ps ++ Rs) B := by
  induction h with
  | nil => exact h2
  | cons r _ ih => exact .cons r ih
theorem ps_take {vs : List V} {Ps : List Pr} (h : PsAt vs Ps B) : ∀ k, PsAt (vs.take k) (Ps.take k) B := by
  induction h with
  | nil => intro k; simpa using (Paired.nil : PsAt [] [] B)
  | cons r _ ih =>
    intro k
    cases k with
    | zero => exact .nil
    | succ k => exact .cons r (ih k)
theorem ps_drop {vs : List V} {Ps : List Pr} (h : PsAt vs Ps B) : ∀ k, PsAt (vs.drop k) (Ps.drop k) B := by
  induction h with
  | nil => intro k; simpa using (Paired.nil : PsAt [] [] B)
  | cons r h ih =>
    intro k
    cases k with
    | zero => exact .cons r h
    | succ k => exact ih k
end
end Pk


set_option Elab.async false
set_option linter.all false
set_option maxRecDepth 100000
set_option maxHeartbeats 4000000
/-! Pk1: what expressions, tests, arguments give over a base that may have grown. -/
namespace Pk
open PySem PySem.Spec PyProof.Rows L2

def Ev (w : Wd) (n m : Nat) (te : TE) (σ : L2.St) (B : Hp) (P : Pr) : Prop := ∀ B1, Same B B1 → Go w n m (te σ) B1 P.p
def EvT (w : Wd) (n m : Nat) (tt : TT) (σ : L2.St) (B : Hp) (b : Bool) : Prop := ∀ B1, Same B B1 → Go w n m (tt σ) B1 (fun c _ => c = b)
def EvA (w : Wd) (n m : Nat) (ta : TA) (σ : L2.St) (B : Hp) (Ps : List Pr) : Prop := ∀ B1, Same B B1 → Go w n m (ta σ) B1 (fun vs B' => PsAt vs Ps B')
def EvO (w : Wd) (n m : Nat) (to : TO) (σ : L2.St) (B : Hp) (o : Option Int) : Prop := ∀ B1, Same B B1 → Go w n m (to σ) B1 (fun c _ => c = o)
/-- an operation on values, in any world -/
def RV (r : R2) (P1 P2 P3 : Pr) : Prop := ∀ (w : Wd) (n : Nat) (B : Hp) (x y : V), P1.p x B → P2.p y B → Go w n n (r x y) B P3.p
def RU (r : V → Hp → VK → Prop) (P1 P3 : Pr) : Prop := ∀ (w : Wd) (n : Nat) (B : Hp) (x : V), P1.p x B → Go w n n (r x) B P3.p
def RC (r : List V → Hp → VK → Prop) (Ps : List Pr) (P3 : Pr) : Prop := ∀ (w : Wd) (n : Nat) (B : Hp) (vs : List V), PsAt vs Ps B → Go w n n (r vs) B P3.p
def RM (r : V → List V → Hp → VK → Prop) (P1 : Pr) (Ps : List Pr) (P3 : Pr) : Prop := ∀ (w : Wd) (n : Nat) (B : Hp) (x : V) (vs : List V), P1.p x B → PsAt vs Ps B → Go w n n (r x vs) B P3.p
def RS (r : V → Option Int → Option Int → Hp → VK → Prop) (P1 : Pr) (lo hi : Option Int) (P3 : Pr) : Prop := ∀ (w : Wd) (n : Nat) (B : Hp) (x : V), P1.p x B → Go w n n (r x lo hi) B P3.p

section
variable {w : Wd} {n m l : Nat} {K : PySem.W.Frag} {σ : L2.St} {B B' : Hp} {ta tb tc te : TE} {tt tu : TT} {P P' P1 P2 P3 : Pr} {v : V} {r r' : R2}
theorem Ev.grow (h : Ev w n m te σ B P) (s : Same B B') : Ev w n m te σ B' P := fun B1 s1 => h B1 (s.trans s1)
theorem EvT.grow {b : Bool} (h : EvT w n m tt σ B b) (s : Same B B') : EvT w n m tt σ B' b := fun B1 s1 => h B1 (s.trans s1)
theorem EvA.grow {ta : TA} {Ps : List Pr} (h : EvA w n m ta σ B Ps) (s : Same B B') : EvA w n m ta σ B' Ps := fun B1 s1 => h B1 (s.trans s1)
theorem Ev.imp (h : Ev w n m te σ B P) (hp : ∀ v B', P.p v B' → P'.p v B') : Ev w n m te σ B P' := fun B1 s1 => (h B1 s1).imp fun v B' _ q => hp v B' q
theorem Ev.le (h : Ev w n m te σ B P) (hm : m ≤ l) : Ev w n l te σ B P := fun B1 s1 => (h B1 s1).le hm
theorem Ev.lift (h : Ev w0 0 0 te σ B P) : Ev w n n te σ B P := fun B1 s1 => (h B1 s1).lift
theorem EvT.lift {b : Bool} (h : EvT w0 0 0 tt σ B b) : EvT w n n tt σ B b := fun B1 s1 => (h B1 s1).lift
theorem EvT.to {b b' : Bool} (h : EvT w n m tt σ B b) (e : b = b') : EvT w n m tt σ B b' := by
  rw [← e]
  exact h
theorem Ev.to (h : Ev w n m te σ B P) (e : P = P') : Ev w n m te σ B P' := by
  rw [← e]
  exact h

theorem ev_var {i : Nat} (h : σ[i]? = some (some v)) (hp : P.p v B) : Ev w n n (tVar i) σ B P := fun B1 s1 H c Q q => ⟨v, h, q v B1 H Gr.refl c (P.mono v B B1 s1 hp)⟩
theorem ev_c (hp : P.p v B) : Ev w n n (tC v) σ B P := fun B1 s1 => Go.one (P.mono v B B1 s1 hp)
theorem ev_op (ha : Ev w n m ta σ B P1) (hb : Ev w m l tb σ B P2) (hr : RV r P1 P2 P3) : Ev w n l (tOp r ta tb) σ B P3 := fun B1 s1 =>
  Go.bind (f := fun x H1 Q => tb σ H1 fun y H2 => r x y H2 Q) (ha B1 s1) fun x B2 s2 hx => Go.bind (f := r x) (hb B2 (s1.trans s2)) fun y B3 s3 hy => hr w l B3 x y (P1.mono x B2 B3 s3 hx) hy
theorem ev_un {r : V → Hp → VK → Prop} (ha : Ev w n m ta σ B P1) (hr : RU r P1 P3) : Ev w n m (tUn r ta) σ B P3 := fun B1 s1 =>
  Go.bind (f := r) (ha B1 s1) fun x B2 s2 hx => hr w m B2 x hx
theorem ev_cb {r : List V → Hp → VK → Prop} {t : TA} {Ps : List Pr} (ha : EvA w n m t σ B Ps) (hr : RC r Ps P3) : Ev w n m (tCB r t) σ B P3 := fun B1 s1 =>
  Go.bind (f := r) (ha B1 s1) fun vs B2 s2 hx => hr w m B2 vs hx
theorem et_test {b : Bool} (h : Ev w n m te σ B (DD K (.bool b))) : EvT w n m (tTest te) σ B b := fun B1 s1 =>
  Go.bind (f := fun x H' Q => ∃ k, x = V.bl k ∧ Q k H') (h B1 s1) fun x B2 s2 hx H c Q q => ⟨b, dd_bool hx, q b B2 H Gr.refl c rfl⟩
theorem et_B {b : Bool} (h : Ev w n m te σ B (DD K (.bool b))) : EvT w n m (tB te) σ B b := fun B1 s1 =>
  Go.bind (f := fun x H' Q => ∃ k, x = V.bl k ∧ Q k H') (h B1 s1) fun x B2 s2 hx H c Q q => ⟨b, dd_bool hx, q b B2 H Gr.refl c rfl⟩
theorem Go.ite {α : Type} {k1 k2 : Hp → (α → Hp → Prop) → Prop} {c : Bool} {R : α → Hp → Prop} (h1 : c = true → Go w n m k1 B R) (h2 : c = false → Go w n m k2 B R) : Go w n m (fun H Q => if c = true then k1 H Q else k2 H Q) B R := by
  cases c with
  | true => exact h1 rfl
  | false => exact h2 rfl
theorem et_and {a b : Bool} (h1 : EvT w n m tt σ B a) (h2 : a = true → EvT w m m tu σ B b) : EvT w n m (tAnd tt tu) σ B (a && b) := fun B1 s1 =>
  Go.bind (f := fun c H1 Q => if c = true then tu σ H1 Q else Q false H1) (h1 B1 s1) fun c B2 s2 hc => by
    subst hc
    cases c with
    | true => exact h2 rfl B2 (s1.trans s2)
    | false => exact Go.one rfl
theorem et_or {a b : Bool} (h1 : EvT w n m tt σ B a) (h2 : a = false → EvT w m m tu σ B b) : EvT w n m (tOr tt tu) σ B (a || b) := fun B1 s1 =>
  Go.bind (f := fun c H1 Q => if c = true then Q true H1 else tu σ H1 Q) (h1 B1 s1) fun c B2 s2 hc => by
    subst hc
    cases c with
    | true => exact Go.one rfl
    | false => exact h2 rfl B2 (s1.trans s2)
theorem et_not {a : Bool} (h1 : EvT w n m tt σ B a) : EvT w n m (tNot tt) σ B (!a) := fun B1 s1 =>
  Go.bind (f := fun c H1 Q => Q (!c) H1) (h1 B1 s1) fun c B2 s2 hc => by
    subst hc
    exact Go.one rfl
theorem ev_andV {a b : Bool} (h1 : Ev w n m ta σ B (DD K (.bool a))) (h2 : a = true → Ev w m m tb σ B (DD K (.bool b))) : Ev w n m (tAndV ta tb) σ B (DD K (.bool (a && b))) := fun B1 s1 =>
  Go.bind (f := fun x H1 Q => ∃ c, x = V.bl c ∧ if c = true then tb σ H1 Q else Q (.bl false) H1) (h1 B1 s1) fun x B2 s2 hx H c Q q => ⟨a, dd_bool hx, by
    cases a with
    | true => exact h2 rfl B2 (s1.trans s2) H c Q q
    | false => exact q _ B2 H Gr.refl c (.bl false)⟩
theorem ev_orV {a b : Bool} (h1 : Ev w n m ta σ B (DD K (.bool a))) (h2 : a = false → Ev w m m tb σ B (DD K (.bool b))) : Ev w n m (tOrV ta tb) σ B (DD K (.bool (a || b))) := fun B1 s1 =>
  Go.bind (f := fun x H1 Q => ∃ c, x = V.bl c ∧ if c = true then Q (.bl true) H1 else tb σ H1 Q) (h1 B1 s1) fun x B2 s2 hx H c Q q => ⟨a, dd_bool hx, by
    cases a with
    | true => exact q _ B2 H Gr.refl c (.bl true)
    | false => exact h2 rfl B2 (s1.trans s2) H c Q q⟩
theorem ev_notV {a : Bool} (h1 : Ev w n m ta σ B (DD K (.bool a))) : Ev w n m (tNotV ta) σ B (DD K (.bool (!a))) := fun B1 s1 =>
  Go.bind (f := fun x H1 Q => ∃ c, x = V.bl c ∧ Q (V.bl (!c)) H1) (h1 B1 s1) fun x B2 s2 hx H c Q q => ⟨a, dd_bool hx, q _ B2 H Gr.refl c (Dp.bl (!a))⟩
theorem ev_if {b : Bool} (h : EvT w n m tt σ B b) (h1 : b = true → Ev w m l ta σ B P) (h2 : b = false → Ev w m l tb σ B P) : Ev w n l (tIf tt ta tb) σ B P := fun B1 s1 =>
  Go.bind (f := fun c H1 Q => if c = true then ta σ H1 Q else tb σ H1 Q) (h B1 s1) fun c B2 s2 hc => by
    subst hc
    exact Go.ite (fun e => h1 e B2 (s1.trans s2)) (fun e => h2 e B2 (s1.trans s2))
theorem ea_nil : EvA w n n tNil σ B [] := fun B1 _ => Go.one .nil
theorem ea_cons {tr : TA} {Ps : List Pr} (h : Ev w n m ta σ B P) (hr : EvA w m l tr σ B Ps) : EvA w n l (tCons ta tr) σ B (P :: Ps) := fun B1 s1 =>
  Go.bind (f := fun x H1 Q => tr σ H1 fun xs H2 => Q (x :: xs) H2) (h B1 s1) fun x B2 s2 hx => Go.bind (f := fun xs H2 Q => Q (x :: xs) H2) (hr B2 (s1.trans s2)) fun xs B3 s3 hxs => Go.one (.cons (P.mono x B2 B3 s3 hx) hxs)
/-- *e ahead of the rest -/
theorem ea_starT {tr : TA} {Ps Rs : List Pr} (h : Ev w n m ta σ B (TuP K Ps)) (hr : EvA w m l tr σ B Rs) : EvA w n l (StX.tStar K ta tr) σ B (Ps ++ Rs) := fun B1 s1 =>
  Go.bind (f := fun x H1 (Q : List V → Hp → Prop) => ∃ p xs, x = V.ref p ∧ (SqT K H1 p xs ∨ SqL K H1 p xs) ∧ tr σ H1 fun ys H2 => Q (xs ++ ys) H2) (h B1 s1) fun x B2 s2 hx H c Q q => by
    obtain ⟨a, vs, rfl, h1, h2⟩ := hx
    exact ⟨a, vs, rfl, .inl (sqT_same c.sub h1), hr B2 (s1.trans s2) H c _ fun ys B3 H3 g3 c3 hys => q _ B3 H3 g3 c3 (ps_app (psAt_same g3.ex h2) hys)⟩
theorem sz_of {k : Nat} (h : k ≤ 100000) : k ≤ sizeLine := Nat.le_trans h (by decide)
theorem sz_lt {k : Nat} (h : k < 100000) : k < sizeLine := Nat.lt_of_lt_of_le h (by decide)
theorem st_of {H : Hp} {a : Addr} {xs : List V} (h : H a = some (.tup xs)) : SqT K H a xs := .inl (.inl h)
theorem sl_of {H : Hp} {a : Addr} {xs : List V} (h : H a = some (.lst xs)) : SqL K H a xs := .inl (.inl h)
theorem same_new {H : Hp} {p : Addr} {o : HO} (h : H p = none) : Same H (upd H p o) := fun b x e => by rw [upd_ne (ne_of_none e h)]; exact e
theorem go_newT {vs : List V} {Ps : List Pr} (h : PsAt vs Ps B) : Go w n n (fun H (Q : V → Hp → Prop) => ∀ p, H p = none → Q (.ref p) (upd H p (.tup vs))) B (TuP K Ps).p :=
  Go.newO (f := V.ref) fun p hp => ⟨p, vs, rfl, st_of upd_same, psAt_same (same_new hp) h⟩
theorem go_newL {vs : List V} {Ps : List Pr} (h : PsAt vs Ps B) : Go w n n (fun H (Q : V → Hp → Prop) => ∀ p, H p = none → Q (.ref p) (upd H p (.lst vs))) B (LiP K Ps).p :=
  Go.newO (f := V.ref) fun p hp => ⟨p, vs, rfl, sl_of upd_same, psAt_same (same_new hp) h⟩
theorem Go.and {α : Type} {k : Hp → (α → Hp → Prop) → Prop} {R : α → Hp → Prop} {C : Prop} (hc : C) (h : Go w n m k B R) : Go w n m (fun H Q => C ∧ k H Q) B R := fun H c Q q => ⟨hc, h H c Q q⟩
theorem ev_tup {t : TA} {Ps : List Pr} (h : EvA w n m t σ B Ps) (hl : Ps.length ≤ 100000 := by exact Nat.le_of_ble_eq_true rfl) : Ev w n m (tTup t) σ B (TuP K Ps) := fun B1 s1 =>
  Go.bind (f := fun xs H1 (Q : V → Hp → Prop) => xs.length ≤ sizeLine ∧ ∀ p, H1 p = none → Q (.ref p) (upd H1 p (.tup xs))) (h B1 s1) fun xs B2 s2 hx => Go.and (by rw [ps_len hx]; exact sz_of hl) (go_newT hx)
theorem ev_lst {t : TA} {Ps : List Pr} (h : EvA w n m t σ B Ps) (hl : Ps.length ≤ 100000 := by exact Nat.le_of_ble_eq_true rfl) : Ev w n m (tLst t) σ B (LiP K Ps) := fun B1 s1 =>
  Go.bind (f := fun xs H1 (Q : V → Hp → Prop) => xs.length ≤ sizeLine ∧ ∀ p, H1 p = none → Q (.ref p) (upd H1 p (.lst xs))) (h B1 s1) fun xs B2 s2 hx => Go.and (by rw [ps_len hx]; exact sz_of hl) (go_newL hx)
theorem ev_ttd {ds : List PyData} (h : Ev w n m te σ B (TuP K (ds.map (DD K)))) : Ev w n m te σ B (DD K (.tuple ds)) := h.imp fun _ _ q => tt_dd q
theorem ev_lld {ds : List PyData} (h : Ev w n m te σ B (LiP K (ds.map (DD K)))) : Ev w n m te σ B (DD K (.list ds)) := h.imp fun _ _ q => ll_dd q
theorem ev_ddt {ds : List PyData} (h : Ev w n m te σ B (DD K (.tuple ds))) : Ev w n m te σ B (TuP K (ds.map (DD K))) := h.imp fun _ _ q => dd_tt q
theorem ev_ddl {ds : List PyData} (h : Ev w n m te σ B (DD K (.list ds))) : Ev w n m te σ B (LiP K (ds.map (DD K))) := h.imp fun _ _ q => dd_ll q
/-- slices -/
theorem eo_none : EvO w n n tNoPart σ B none := fun B1 _ => Go.one rfl
theorem eo_some {i : Int} (h : Ev w n m te σ B (DD K (.int i))) : EvO w n m (tPart te) σ B (some i) := fun B1 s1 =>
  Go.bind (f := fun x H1 Q => ∃ i, x = V.int i ∧ Q (some i) H1) (h B1 s1) fun x B2 s2 hx H c Q q => ⟨i, dd_int hx, q _ B2 H Gr.refl c rfl⟩
theorem ev_sl {r : V → Option Int → Option Int → Hp → VK → Prop} {tl th : TO} {lo hi : Option Int} {k : Nat} (h : Ev w n m te σ B P1) (h1 : EvO w m l tl σ B lo) (h2 : EvO w l k th σ B hi) (hr : RS r P1 lo hi P3) : Ev w n k (tSl r te tl th) σ B P3 := fun B1 s1 =>
  Go.bind (f := fun x H1 Q => tl σ H1 fun a H2 => th σ H2 fun b H3 => r x a b H3 Q) (h B1 s1) fun x B2 s2 hx => Go.bind (f := fun a H2 Q => th σ H2 fun b H3 => r x a b H3 Q) (h1 B2 (s1.trans s2)) fun a B3 s3 ha => Go.bind (f := fun b H3 Q => r x a b H3 Q) (h2 B3 ((s1.trans s2).trans s3)) fun b B4 s4 hb => by
    subst ha hb
    exact hr w k B4 x (P1.mono x B2 B4 (s3.trans s4) hx)

/-! ### defs by promises -/
/-- a def that leaves all that stood: from things Ps comes a thing P -/
def spF (G : List Pr → Pr → Prop) : Sp := fun vs H Q _ => ∃ B Ps P, Same B H ∧ PsAt vs Ps B ∧ G Ps P ∧ ∀ v B' H', Gr (fun _ => False) B H B' H' → Same B' H' → P.p v B' → Q v H'
theorem go_fn {G : List Pr → Pr → Prop} {Ps : List Pr} {vs : List V} {E : XK} (hv : PsAt vs Ps B) (hG : G Ps P) : Go w n n (fun H Q => spF G vs H Q E) B P.p := fun H c Q q =>
  ⟨B, Ps, P, c.sub, hv, hG, fun v B' H' g s p => q v B' H' g.lift (c.step0 g s) p⟩
theorem ev_fn {G : List Pr → Pr → Prop} {Ps : List Pr} {t : TA} {E : XK} (ha : EvA w n m t σ B Ps) (hG : G Ps P) : Ev w n m (tCall (spF G) [] E t) σ B P := fun B1 s1 =>
  Go.bind (f := fun vs H1 Q => spF G (vs ++ []) H1 Q E) (ha B1 s1) fun vs B2 s2 hv => go_fn (by rw [List.append_nil]; exact hv) hG
/-- by keywords -/
theorem ev_fnK {G : List Pr → Pr → Prop} {Ps Rs Us : List Pr} {gV : List V → List V → List V} {t tk : TA} {E : XK} (ha : EvA w n m t σ B Ps) (hk : EvA w m l tk σ B Rs) (hg : ∀ vs zs B', PsAt vs Ps B' → PsAt zs Rs B' → PsAt (gV vs zs) Us B') (hG : G Us P) :
    Ev w n l (tCallK (spF G) gV E t tk) σ B P := fun B1 s1 =>
  Go.bind (f := fun vs H1 Q => tk σ H1 fun zs H2 => spF G (gV vs zs) H2 Q E) (ha B1 s1) fun vs B2 s2 hv => Go.bind (f := fun zs H2 Q => spF G (gV vs zs) H2 Q E) (hk B2 (s1.trans s2)) fun zs B3 s3 hz => go_fn (hg vs zs B3 (psAt_same s3 hv) hz) hG
end
end Pk


set_option Elab.async false
set_option linter.all false
set_option maxRecDepth 100000
set_option maxHeartbeats 4000000
/-! Pk2: operators, built-ins, methods as rules over what is said of values. -/
namespace Pk
open PySem PySem.Spec PyProof.Rows L2

abbrev dI (K : PySem.W.Frag) (i : Int) : Pr := DD K (.int i)
abbrev dB (K : PySem.W.Frag) (b : Bool) : Pr := DD K (.bool b)
abbrev dS (K : PySem.W.Frag) (x : Str) : Pr := DD K (.str x)
/-- a list of one's own: it stands in the base as a list -/
def LoP (K : PySem.W.Frag) (Ps : List Pr) : Pr := ⟨fun v B => ∃ a vs, v = .ref a ∧ B a = some (.lst vs) ∧ PsAt vs Ps B, fun _ _ _ e ⟨a, vs, h1, h2, h3⟩ => ⟨a, vs, h1, e _ _ h2, psAt_same e h3⟩⟩
section
variable {w : Wd} {n m l : Nat} {K : PySem.W.Frag} {σ : L2.St} {B : Hp} {ta tb tc te : TE} {P P' P1 P2 P3 : Pr} {v : V} {r r' : R2} {Ps Rs : List Pr}
theorem lo_li {v : V} (h : (LoP K Ps).p v B) : (LiP K Ps).p v B := by
  obtain ⟨a, vs, rfl, h1, h2⟩ := h
  exact ⟨a, vs, rfl, sl_of h1, h2⟩
theorem ev_lo (h : Ev w n m te σ B (LoP K Ps)) : Ev w n m te σ B (LiP K Ps) := h.imp fun _ _ q => lo_li q
theorem ev_lod {ds : List PyData} (h : Ev w n m te σ B (LoP K (ds.map (DD K)))) : Ev w n m te σ B (DD K (.list ds)) := h.imp fun _ _ q => ll_dd (lo_li q)
theorem go_newLo {vs : List V} {Ps : List Pr} (h : PsAt vs Ps B) : Go w n n (fun H (Q : V → Hp → Prop) => ∀ p, H p = none → Q (.ref p) (upd H p (.lst vs))) B (LoP K Ps).p :=
  Go.newO (f := V.ref) fun p hp => ⟨p, vs, rfl, upd_same, psAt_same (same_new hp) h⟩
theorem ev_lst' {t : TA} {Ps : List Pr} (h : EvA w n m t σ B Ps) (hl : Ps.length ≤ 100000 := by exact Nat.le_of_ble_eq_true rfl) : Ev w n m (tLst t) σ B (LoP K Ps) := fun B1 s1 =>
  Go.bind (f := fun xs H1 (Q : V → Hp → Prop) => xs.length ≤ sizeLine ∧ ∀ p, H1 p = none → Q (.ref p) (upd H1 p (.lst xs))) (h B1 s1) fun xs B2 s2 hx => Go.and (by rw [ps_len hx]; exact sz_of hl) (go_newLo hx)

theorem ev_int {i : Int} : Ev w n n (tC (.int i)) σ B (dI K i) := ev_c (Dp.int i)
theorem ev_str {x : Str} : Ev w n n (tC (.str x)) σ B (dS K x) := ev_c (Dp.str x)
theorem ev_bl {b : Bool} : Ev w n n (tC (.bl b)) σ B (dB K b) := ev_c (Dp.bl b)
theorem ev_non : Ev w n n (tC .non) σ B (DD K .none) := ev_c Dp.non
/-! ### ints -/
theorem rv_I0i {g : Int → Int → Int} {i j : Int} : RV (rI0 fun i j => .int (g i j)) (dI K i) (dI K j) (dI K (g i j)) := fun w n B x y hx hy H c Q q => ⟨i, j, dd_int hx, dd_int hy, q _ B H Gr.refl c (.int _)⟩
theorem rv_I0b {g : Int → Int → Bool} {i j : Int} : RV (rI0 fun i j => .bl (g i j)) (dI K i) (dI K j) (dB K (g i j)) := fun w n B x y hx hy H c Q q => ⟨i, j, dd_int hx, dd_int hy, q _ B H Gr.refl c (.bl _)⟩
theorem rv_Ii {C : Int → Int → Prop} {g : Int → Int → Int} {i j : Int} (hc : C i j) : RV (rI C fun i j => .int (g i j)) (dI K i) (dI K j) (dI K (g i j)) := fun w n B x y hx hy H c Q q => ⟨i, j, dd_int hx, dd_int hy, hc, q _ B H Gr.refl c (.int _)⟩
theorem ru_neg {i : Int} : RU (rU fun i => .int (-i)) (dI K i) (dI K (-i)) := fun w n B x hx H c Q q => ⟨i, dd_int hx, q _ B H Gr.refl c (.int _)⟩
/-! ### ==, != of scalars -/
theorem rv_eqS {a b : Str} : RV rEq (dS K a) (dS K b) (dB K (decide (a = b))) := fun w n B x y hx hy H c Q q => by
  obtain rfl := dd_str hx
  obtain rfl := dd_str hy
  refine ⟨rfl, ?_⟩
  have e : decide (V.str a = V.str b) = decide (a = b) := by
    by_cases h : a = b
    · simp [h]
    · simp [h]
  rw [e]
  exact q _ B H Gr.refl c (.bl _)
theorem rv_neS {a b : Str} : RV rNe (dS K a) (dS K b) (dB K (!decide (a = b))) := fun w n B x y hx hy H c Q q => by
  obtain rfl := dd_str hx
  obtain rfl := dd_str hy
  refine ⟨rfl, ?_⟩
  have e : decide (V.str a = V.str b) = decide (a = b) := by
    by_cases h : a = b
    · simp [h]
    · simp [h]
  rw [e]
  exact q _ B H Gr.refl c (.bl _)
theorem rv_eqI {a b : Int} : RV rEq (dI K a) (dI K b) (dB K (decide (a = b))) := fun w n B x y hx hy H c Q q => by
  obtain rfl := dd_int hx
  obtain rfl := dd_int hy
  refine ⟨rfl, ?_⟩
  have e : decide (V.int a = V.int b) = decide (a = b) := by
    by_cases h : a = b
    · simp [h]
    · simp [h]
  rw [e]
  exact q _ B H Gr.refl c (.bl _)
theorem rv_neB {a b : Bool} : RV rNe (dB K a) (dB K b) (dB K (!decide (a = b))) := fun w n B x y hx hy H c Q q => by
  obtain rfl := dd_bool hx
  obtain rfl := dd_bool hy
  refine ⟨rfl, ?_⟩
  have e : decide (V.bl a = V.bl b) = decide (a = b) := by
    by_cases h : a = b
    · simp [h]
    · simp [h]
  rw [e]
  exact q _ B H Gr.refl c (.bl _)
theorem rv_eqB {a b : Bool} : RV rEq (dB K a) (dB K b) (dB K (decide (a = b))) := fun w n B x y hx hy H c Q q => by
  obtain rfl := dd_bool hx
  obtain rfl := dd_bool hy
  refine ⟨rfl, ?_⟩
  have e : decide (V.bl a = V.bl b) = decide (a = b) := by
    by_cases h : a = b
    · simp [h]
    · simp [h]
  rw [e]
  exact q _ B H Gr.refl c (.bl _)
/-- == and != of data -/
theorem rv_eqD {d e : PyData} (h1 : SeqAt.shaped d = true) (h2 : SeqAt.shaped e = true) : RV (rEqD K) (DD K d) (DD K e) (dB K (PyData.eqv d e)) := fun w n B x y hx hy H c Q q =>
  ⟨d, e, dp_same c.sub d x hx, dp_same c.sub e y hy, h1, h2, q _ B H Gr.refl c (.bl _)⟩
theorem rv_neD {d e : PyData} (h1 : SeqAt.shaped d = true) (h2 : SeqAt.shaped e = true) : RV (rNeD K) (DD K d) (DD K e) (dB K (!PyData.eqv d e)) := fun w n B x y hx hy H c Q q =>
  ⟨d, e, dp_same c.sub d x hx, dp_same c.sub e y hy, h1, h2, q _ B H Gr.refl c (.bl _)⟩
/-- is None, is not None -/
def isNo : PyData → Bool
  | .none => true
  | _ => false
theorem rv_isN {d : PyData} : RV (fun x y H Q => y = V.non ∧ Q (.bl (decide (x = .non))) H) (DD K d) (DD K .none) (dB K (isNo d)) := fun w n B x y hx hy H c Q q => by
  refine ⟨dd_none hy, ?_⟩
  have e : decide (x = V.non) = isNo d := by
    cases (show Dp K B x d from hx) <;> simp [isNo]
  rw [e]
  exact q _ B H Gr.refl c (.bl _)
theorem rv_notN {d : PyData} : RV (fun x y H Q => y = V.non ∧ Q (.bl (!decide (x = .non))) H) (DD K d) (DD K .none) (dB K (!isNo d)) := fun w n B x y hx hy H c Q q => by
  refine ⟨dd_none hy, ?_⟩
  have e : (!decide (x = V.non)) = (!isNo d) := by
    cases (show Dp K B x d from hx) <;> simp [isNo]
  rw [e]
  exact q _ B H Gr.refl c (.bl _)
/-! ### in -/
theorem strs_of : ∀ {vs : List V} {xs : List Str}, PsAt vs (xs.map (dS K)) B → vs = xs.map V.str
  | _, [], h => by cases h; rfl
  | _, x :: xs, h => by
    cases h with
    | cons r t => rw [dd_str r, strs_of t] <;> rfl
theorem ints_of : ∀ {vs : List V} {xs : List Int}, PsAt vs (xs.map (dI K)) B → vs = xs.map V.int
  | _, [], h => by cases h; rfl
  | _, x :: xs, h => by
    cases h with
    | cons r t => rw [dd_int r, ints_of t] <;> rfl
theorem bools_of : ∀ {vs : List V} {xs : List Bool}, PsAt vs (xs.map (dB K)) B → vs = xs.map V.bl
  | _, [], h => by cases h; rfl
  | _, x :: xs, h => by
    cases h with
    | cons r t => rw [dd_bool r, bools_of t] <;> rfl
theorem ps_strs : ∀ (xs : List Str), PsAt (xs.map V.str) (xs.map (dS K)) B
  | [] => .nil
  | x :: xs => .cons (.str x) (ps_strs xs)
theorem ps_ints : ∀ (xs : List Int), PsAt (xs.map V.int) (xs.map (dI K)) B
  | [] => .nil
  | x :: xs => .cons (.int x) (ps_ints xs)
theorem inV_str {a : Str} {xs : List Str} : inV (.str a) (xs.map V.str) = decide (a ∈ xs) := by
  unfold inV
  induction xs with
  | nil => rfl
  | cons x xs ih =>
    rw [List.map_cons, List.any_cons, ih]
    show ((x == a) || decide (a ∈ xs)) = decide (a ∈ x :: xs)
    by_cases h : x = a
    · simp [h]
    · have h' : ¬ a = x := fun z => h z.symm
      simp [h, h']
theorem flat_strs {xs : List Str} : (xs.map V.str).all flatV = true := by
  rw [List.all_eq_true]
  intro x hx
  obtain ⟨s, _, rfl⟩ := List.mem_map.mp hx
  rfl
theorem rv_inT {neg : Bool} {a : Str} {xs : List Str} : RV (rIn K neg) (dS K a) (TuP K (xs.map (dS K))) (dB K (if neg then !decide (a ∈ xs) else decide (a ∈ xs))) := fun w n B x y hx hy H c Q q => by
  obtain rfl := dd_str hx
  obtain ⟨p, vs, rfl, h1, h2⟩ := hy
  obtain rfl := strs_of h2
  refine ⟨p, _, rfl, .inr (sqT_same c.sub h1), rfl, flat_strs, ?_⟩
  rw [inV_str]
  exact q _ B H Gr.refl c (.bl _)
theorem rv_inL {neg : Bool} {a : Str} {xs : List Str} : RV (rIn K neg) (dS K a) (LiP K (xs.map (dS K))) (dB K (if neg then !decide (a ∈ xs) else decide (a ∈ xs))) := fun w n B x y hx hy H c Q q => by
  obtain rfl := dd_str hx
  obtain ⟨p, vs, rfl, h1, h2⟩ := hy
  obtain rfl := strs_of h2
  refine ⟨p, _, rfl, .inl (sqL_same c.sub h1), rfl, flat_strs, ?_⟩
  rw [inV_str]
  exact q _ B H Gr.refl c (.bl _)
/-! ### texts -/
theorem rv_addS {a b : Str} (h : a.length + b.length ≤ 100000) : RV (fun x y H Q => ∃ i j, x = V.str i ∧ y = V.str j ∧ i.length + j.length ≤ sizeLine ∧ Q (.str (i ++ j)) H) (dS K a) (dS K b) (dS K (a ++ b)) := fun w n B x y hx hy H c Q q =>
  ⟨a, b, dd_str hx, dd_str hy, sz_of h, q _ B H Gr.refl c (.str _)⟩
/-! ### subscripts, slices -/
theorem atI_ps {vs : List V} {i : Int} {P : Pr} (h : PsAt vs Ps B) (e : atI Ps i = some P) : ∃ v, atI vs i = some v ∧ P.p v B := by
  unfold atI at e ⊢
  rw [ps_len h]
  cases q : ixN Ps.length i with
  | none => rw [q] at e; cases e
  | some j =>
    rw [q] at e
    exact ps_get' h e
theorem rv_ixT {i : Int} (e : atI Ps i = some P) : RV (rIxT K) (TuP K Ps) (dI K i) P := fun w n B x y hx hy H c Q q => by
  obtain rfl := dd_int hy
  obtain ⟨p, vs, rfl, h1, h2⟩ := hx
  obtain ⟨v, e1, e2⟩ := atI_ps h2 e
  exact ⟨p, vs, i, v, rfl, rfl, sqT_same c.sub h1, e1, q _ B H Gr.refl c e2⟩
theorem rv_ixL {i : Int} (e : atI Ps i = some P) : RV (rIxL K) (LiP K Ps) (dI K i) P := fun w n B x y hx hy H c Q q => by
  obtain rfl := dd_int hy
  obtain ⟨p, vs, rfl, h1, h2⟩ := hx
  obtain ⟨v, e1, e2⟩ := atI_ps h2 e
  exact ⟨p, vs, i, v, rfl, rfl, sqL_same c.sub h1, e1, q _ B H Gr.refl c e2⟩
def cutP {α : Type} (xs : List α) (lo hi : Option Int) : List α := (xs.drop (HT.sIx xs.length 0 lo)).take (HT.sIx xs.length xs.length hi - HT.sIx xs.length 0 lo)
theorem ps_cut {vs : List V} (h : PsAt vs Ps B) (lo hi : Option Int) : PsAt (cutV vs lo hi) (cutP Ps lo hi) B := by
  unfold cutV cutP
  rw [ps_len h]
  exact ps_take (ps_drop h _) _
theorem cutP_map {α β : Type} (f : α → β) (xs : List α) (lo hi : Option Int) : cutP (xs.map f) lo hi = (cutP xs lo hi).map f := by
  unfold cutP
  rw [List.length_map, List.map_take, List.map_drop]
theorem cut_from {α : Type} (xs : List α) (k : Nat) : cutP xs (some (k : Int)) none = xs.drop k := by
  unfold cutP
  rw [HT.sIx_nat, HT.sIx_none]
  by_cases h : k ≤ xs.length
  · rw [Nat.min_eq_left h, List.take_of_length_le (by rw [List.length_drop]; omega)]
  · rw [Nat.min_eq_right (by omega), List.drop_of_length_le (Nat.le_refl _), List.drop_of_length_le (by omega)]
    simp
theorem cut_to {α : Type} (xs : List α) (k : Nat) : cutP xs none (some (k : Int)) = xs.take k := by
  unfold cutP
  rw [HT.sIx_nat, HT.sIx_none]
  show (xs.drop 0).take (min k xs.length - 0) = xs.take k
  rw [List.drop_zero, Nat.sub_zero]
  by_cases h : k ≤ xs.length
  · rw [Nat.min_eq_left h]
  · rw [Nat.min_eq_right (by omega), List.take_of_length_le (Nat.le_refl _), List.take_of_length_le (by omega)]
theorem cut_mid {α : Type} (xs : List α) (j k : Nat) : cutP xs (some (j : Int)) (some (k : Int)) = (xs.take k).drop j := by
  unfold cutP
  rw [HT.sIx_nat, HT.sIx_nat, List.drop_take]
  by_cases h : j ≤ xs.length
  · rw [Nat.min_eq_left h]
    by_cases h2 : k ≤ xs.length
    · rw [Nat.min_eq_left h2]
    · have e1 : (xs.drop j).take (min k xs.length - j) = xs.drop j := List.take_of_length_le (by rw [List.length_drop]; omega)
      have e2 : (xs.drop j).take (k - j) = xs.drop j := List.take_of_length_le (by rw [List.length_drop]; omega)
      rw [e1, e2]
  · have e1 : xs.drop j = [] := List.drop_of_length_le (by omega)
    have e2 : xs.drop (min j xs.length) = [] := List.drop_of_length_le (by omega)
    rw [e1, e2, List.take_nil, List.take_nil]
theorem rs_list {lo hi : Option Int} : RS (rSlL K) (LiP K Ps) lo hi (LoP K (cutP Ps lo hi)) := fun w n B x hx H c Q q => by
  obtain ⟨p, vs, rfl, h1, h2⟩ := hx
  exact ⟨p, vs, rfl, sqL_same c.sub h1, go_newLo (K := K) (ps_cut h2 lo hi) H c Q q⟩
theorem cut_whole {α : Type} {xs : List α} {lo hi : Option Int} (h : HT.sIx xs.length 0 lo = 0 ∧ HT.sIx xs.length xs.length hi = xs.length) : cutP xs lo hi = xs := by
  unfold cutP
  rw [h.1, h.2, List.drop_zero, Nat.sub_zero, List.take_of_length_le (Nat.le_refl _)]
theorem rs_tup {lo hi : Option Int} : RS (rSlA K) (TuP K Ps) lo hi (TuP K (cutP Ps lo hi)) := fun w n B x hx H c Q q => by
  obtain ⟨p, vs, rfl, h1, h2⟩ := hx
  refine ⟨p, vs, rfl, sqT_same c.sub h1, fun hw => ?_, fun _ => go_newT (K := K) (ps_cut h2 lo hi) H c Q q⟩
  rw [ps_len h2] at hw
  refine q _ B H Gr.refl c ⟨p, vs, rfl, h1, ?_⟩
  rw [cut_whole hw]
  exact h2
/-- xs[::-1] -/
theorem ps_rev {vs : List V} (h : PsAt vs Ps B) : PsAt vs.reverse Ps.reverse B := by
  induction h with
  | nil => exact .nil
  | cons r _ ih =>
    rw [List.reverse_cons, List.reverse_cons]
    exact ps_snoc ih r
theorem ev_revL (h : Ev w n m te σ B (LiP K Ps)) : Ev w n m (tRevL K te) σ B (LoP K Ps.reverse) := fun B1 s1 =>
  Go.bind (f := fun x H1 (Q : V → Hp → Prop) => ∃ a xs, x = V.ref a ∧ SqL K H1 a xs ∧ ∀ p, H1 p = none → Q (.ref p) (upd H1 p (.lst xs.reverse))) (h B1 s1) fun x B2 s2 hx H c Q q => by
    obtain ⟨p, vs, rfl, h1, h2⟩ := hx
    exact ⟨p, vs, rfl, sqL_same c.sub h1, go_newLo (K := K) (ps_rev h2) H c Q q⟩
/-! ### + of lists, of tuples -/
theorem rv_cat (hl : Ps.length + Rs.length ≤ 100000) : RV rCat (LoP K Ps) (LoP K Rs) (LoP K (Ps ++ Rs)) := fun w n B x y hx hy H c Q q => by
  obtain ⟨p, vs, rfl, h1, h2⟩ := hx
  obtain ⟨p', us, rfl, h3, h4⟩ := hy
  exact ⟨p, p', vs, us, rfl, rfl, c.sub _ _ h1, c.sub _ _ h3, by rw [ps_len h2, ps_len h4]; exact sz_of hl, go_newLo (K := K) (ps_app h2 h4) H c Q q⟩
theorem rv_catT (hl : Ps.length + Rs.length ≤ 100000) : RV (rCatA K) (TuP K Ps) (TuP K Rs) (TuP K (Ps ++ Rs)) := fun w n B x y hx hy H c Q q => by
  obtain ⟨p, vs, rfl, h1, h2⟩ := hx
  obtain ⟨p', us, rfl, h3, h4⟩ := hy
  refine ⟨p, p', vs, us, rfl, rfl, sqT_same c.sub h1, sqT_same c.sub h3, by rw [ps_len h2, ps_len h4]; exact sz_of hl, fun e => ?_, fun _ e => ?_, fun _ _ => go_newT (K := K) (ps_app h2 h4) H c Q q⟩
  · subst e
    cases h2
    exact q _ B H Gr.refl c ⟨p', us, rfl, h3, h4⟩
  · subst e
    cases h4
    rw [List.append_nil] at q
    exact q _ B H Gr.refl c ⟨p, vs, rfl, h1, h2⟩
/-! ### built-ins -/
theorem rc_lenL : RC (fun xs H Q => ∃ p ys, xs = [V.ref p] ∧ (SqL K H p ys ∨ SqT K H p ys) ∧ Q (.int ys.length) H) [LiP K Ps] (dI K (Ps.length : Nat)) := fun w n B vs hv H c Q q => by
  cases hv with
  | cons hx t =>
    cases t
    obtain ⟨p, us, rfl, h1, h2⟩ := hx
    exact ⟨p, us, rfl, .inl (sqL_same c.sub h1), by rw [ps_len h2]; exact q _ B H Gr.refl c (.int _)⟩
theorem rc_lenT : RC (fun xs H Q => ∃ p ys, xs = [V.ref p] ∧ (SqL K H p ys ∨ SqT K H p ys) ∧ Q (.int ys.length) H) [TuP K Ps] (dI K (Ps.length : Nat)) := fun w n B vs hv H c Q q => by
  cases hv with
  | cons hx t =>
    cases t
    obtain ⟨p, us, rfl, h1, h2⟩ := hx
    exact ⟨p, us, rfl, .inr (sqT_same c.sub h1), by rw [ps_len h2]; exact q _ B H Gr.refl c (.int _)⟩
theorem rc_lenS {x : Str} (h : x.length ≤ 100000) : RC (fun xs H Q => ∃ z, xs = [V.str z] ∧ z.length ≤ sizeLine ∧ Q (.int z.length) H) [dS K x] (dI K (x.length : Nat)) := fun w n B vs hv H c Q q => by
  cases hv with
  | cons hx t =>
    cases t
    exact ⟨x, by rw [dd_str hx], sz_of h, q _ B H Gr.refl c (.int _)⟩
theorem rc_listL : RC (fun xs H Q => ∃ p ys, xs = [V.ref p] ∧ (SqL K H p ys ∨ SqT K H p ys) ∧ ∀ l, H l = none → Q (.ref l) (upd H l (.lst ys))) [LiP K Ps] (LoP K Ps) := fun w n B vs hv H c Q q => by
  cases hv with
  | cons hx t =>
    cases t
    obtain ⟨p, us, rfl, h1, h2⟩ := hx
    exact ⟨p, us, rfl, .inl (sqL_same c.sub h1), go_newLo (K := K) h2 H c Q q⟩
theorem rc_listT : RC (fun xs H Q => ∃ p ys, xs = [V.ref p] ∧ (SqL K H p ys ∨ SqT K H p ys) ∧ ∀ l, H l = none → Q (.ref l) (upd H l (.lst ys))) [TuP K Ps] (LoP K Ps) := fun w n B vs hv H c Q q => by
  cases hv with
  | cons hx t =>
    cases t
    obtain ⟨p, us, rfl, h1, h2⟩ := hx
    exact ⟨p, us, rfl, .inr (sqT_same c.sub h1), go_newLo (K := K) h2 H c Q q⟩
theorem rc_tupL : RC (fun xs H Q => ∃ p ys, xs = [V.ref p] ∧ ((SqL K H p ys ∧ ∀ l, H l = none → Q (.ref l) (upd H l (.tup ys))) ∨ (SqT K H p ys ∧ Q (.ref p) H))) [LiP K Ps] (TuP K Ps) := fun w n B vs hv H c Q q => by
  cases hv with
  | cons hx t =>
    cases t
    obtain ⟨p, us, rfl, h1, h2⟩ := hx
    exact ⟨p, us, rfl, .inl ⟨sqL_same c.sub h1, go_newT (K := K) h2 H c Q q⟩⟩
theorem rc_tupT : RC (fun xs H Q => ∃ p ys, xs = [V.ref p] ∧ ((SqL K H p ys ∧ ∀ l, H l = none → Q (.ref l) (upd H l (.tup ys))) ∨ (SqT K H p ys ∧ Q (.ref p) H))) [TuP K Ps] (TuP K Ps) := fun w n B vs hv H c Q q => by
  cases hv with
  | cons hx t =>
    cases t
    obtain ⟨p, us, rfl, h1, h2⟩ := hx
    exact ⟨p, us, rfl, .inr ⟨sqT_same c.sub h1, q _ B H Gr.refl c ⟨p, us, rfl, h1, h2⟩⟩⟩
theorem rc_all {bs : List Bool} : RC (rAll K) [LiP K (bs.map (dB K))] (dB K (bs.all id)) := fun w n B vs hv H c Q q => by
  cases hv with
  | cons hx t =>
    cases t
    obtain ⟨p, us, rfl, h1, h2⟩ := hx
    obtain rfl := bools_of h2
    exact ⟨p, bs, rfl, sqL_same c.sub h1, q _ B H Gr.refl c (.bl _)⟩
theorem rc_abs {i : Int} : RC (fun xs H Q => ∃ i, xs = [V.int i] ∧ Q (.int (if i < 0 then -i else i)) H) [dI K i] (dI K (if i < 0 then -i else i)) := fun w n B vs hv H c Q q => by
  cases hv with
  | cons hx t =>
    cases t
    exact ⟨i, by rw [dd_int hx], q _ B H Gr.refl c (.int _)⟩
theorem rc_int1 {i : Int} : RC (fun xs H Q => (∃ i, xs = [V.int i] ∧ Q (.int i) H) ∨ ∃ k, xs = [V.bl k] ∧ Q (.int (if k then 1 else 0)) H) [dI K i] (dI K i) := fun w n B vs hv H c Q q => by
  cases hv with
  | cons hx t =>
    cases t
    exact .inl ⟨i, by rw [dd_int hx], q _ B H Gr.refl c (.int _)⟩
theorem rc_intB {b : Bool} : RC (fun xs H Q => (∃ i, xs = [V.int i] ∧ Q (.int i) H) ∨ ∃ k, xs = [V.bl k] ∧ Q (.int (if k then 1 else 0)) H) [dB K b] (dI K (if b then 1 else 0)) := fun w n B vs hv H c Q q => by
  cases hv with
  | cons hx t =>
    cases t
    exact .inr ⟨b, by rw [dd_bool hx], q _ B H Gr.refl c (.int _)⟩
theorem rc_min2 {i j : Int} : RC (fun xs H Q => ∃ i j, xs = [V.int i, V.int j] ∧ Q (.int (if j < i then j else i)) H) [dI K i, dI K j] (dI K (if j < i then j else i)) := fun w n B vs hv H c Q q => by
  cases hv with
  | cons hx t =>
    cases t with
    | cons hy t =>
      cases t
      exact ⟨i, j, by rw [dd_int hx, dd_int hy], q _ B H Gr.refl c (.int _)⟩
end
end Pk


set_option Elab.async false
set_option linter.all false
set_option maxRecDepth 100000
set_option maxHeartbeats 4000000
/-! Pk3: what is walked; comprehensions. -/
namespace Pk
open PySem PySem.Spec PyProof.Rows L2

section
variable {w : Wd} {n m : Nat} {S : Addr → Prop} {B H B' H' : Hp} {D : Addr} {o : HO}
theorem Gr.put (g : Gr S B H B' H') (hB : B' D = none) (hH : H D = none) : Gr S B H (upd B' D o) H' where
  ex := fun a u e => by rw [upd_ne (ne_of_none (g.ex a u e) hB)]; exact g.ex a u e
  keep := g.keep
  has := g.has
  fr := fun a e => by
    by_cases ha : a = D
    · exact .inr (by rw [ha]; exact hH)
    · rw [upd_ne ha] at e
      exact g.fr a e
theorem Gr.mut (g : Gr S B H B' H') (hH : H D = none) : Gr S B H B' (upd H' D o) where
  ex := g.ex
  keep := fun a u s e => by rw [upd_ne (ne_of_none e hH)]; exact g.keep a u s e
  has := fun a e => by
    by_cases ha : a = D
    · rw [ha, upd_same]; exact Option.some_ne_none o
    · rw [upd_ne ha]; exact g.has a e
  fr := g.fr
theorem Ctx.put (c : Ctx w n B' H') (hH : H' D = some o) (hS : ¬ w.S D) : Ctx w n (upd B' D o) H' where
  sub := fun a u e => by
    by_cases ha : a = D
    · rw [ha, upd_same] at e
      rw [ha, hH]
      exact e
    · rw [upd_ne ha] at e
      exact c.sub a u e
  cl := fun a s => by
    have hne : a ≠ D := fun z => hS (by rw [← z]; exact s)
    rw [upd_ne hne]
    exact c.cl a s
  wd := c.wd
theorem Ctx.mut (c : Ctx w n B' H') (hB : B' D = none) (hS : ¬ w.S D) : Ctx w n B' (upd H' D o) where
  sub := fun a u e => by rw [upd_ne (ne_of_none e hB)]; exact c.sub a u e
  cl := c.cl
  wd := w.stab n H' _ (fun a s => upd_ne fun z => hS (by rw [← z]; exact s)) c.wd
theorem Ctx.notS (c : Ctx w n B' H') (hH : H' D = none) : ¬ w.S D := fun s => w.has n H' D c.wd s hH
/-- an address that the base has not, and the heap has, stays out of the base -/
theorem Gr.out (g : Gr S B H B' H') (hB : B D = none) (hH : H D ≠ none) : B' D = none := by
  cases e : B' D with
  | none => rfl
  | some u =>
    rcases g.fr D (by rw [e]; exact Option.some_ne_none u) with h | h
    · exact absurd hB h
    · exact absurd h hH
end

/-! ### walks -/
structure Wk {α : Type} (w : Wd) (B : Hp) (J : It) (xs : List α) (Y : α → Pr) : Prop where
  go : ∀ i l B1 H1, Same B B1 → Ctx w l B1 H1 → i < xs.length → J.go i H1
  stop : ∀ l B1 H1, Same B B1 → Ctx w l B1 H1 → J.stop xs.length H1
  yld : ∀ i l B1 H1 v H2, Same B B1 → Ctx w l B1 H1 → i < xs.length → J.yld i H1 v H2 → ∃ x B2, xs[i]? = some x ∧ Gr w.S B1 H1 B2 H2 ∧ Ctx w l B2 H2 ∧ (Y x).p v B2
/-- what is walked, in this world -/
def EvS {α : Type} (w : Wd) (n m : Nat) (wi : TI) (σ : L2.St) (B : Hp) (xs : List α) (Y : α → Pr) : Prop := ∀ B1, Same B B1 → ∀ H, Ctx w n B1 H → ∀ R : It → Hp → Prop,
  (∀ J B' H', Gr w.S B1 H B' H' → Ctx w m B' H' → Wk w B' J xs Y → R J H') → wi σ H R
/-- .. in any world from there on -/
def EvW {α : Type} (w : Wd) (n m : Nat) (wi : TI) (σ : L2.St) (B : Hp) (xs : List α) (Y : α → Pr) : Prop := ∀ B1, Same B B1 → ∀ H, Ctx w n B1 H → ∀ R : It → Hp → Prop,
  (∀ J B' H', Gr w.S B1 H B' H' → Ctx w m B' H' → (∀ u : Wd, Wk u B' J xs Y) → R J H') → wi σ H R
theorem EvW.s {α : Type} {w : Wd} {n m : Nat} {wi : TI} {σ : L2.St} {B : Hp} {xs : List α} {Y : α → Pr} (h : EvW w n m wi σ B xs Y) : EvS w n m wi σ B xs Y := fun B1 s1 H c R q => h B1 s1 H c R fun J B' H' g c' k => q J B' H' g c' (k w)
theorem EvS.grow {α : Type} {w : Wd} {n m : Nat} {wi : TI} {σ : L2.St} {B B' : Hp} {xs : List α} {Y : α → Pr} (h : EvS w n m wi σ B xs Y) (s : Same B B') : EvS w n m wi σ B' xs Y := fun B1 s1 => h B1 (s.trans s1)

section
variable {w : Wd} {n m l : Nat} {K : PySem.W.Frag} {σ : L2.St} {B : Hp} {te tb : TE} {α : Type} {xs : List α} {Y : α → Pr}
theorem nth_some {β : Type} {ys : List β} {i : Nat} (h : i < ys.length) : ∃ y, ys[i]? = some y := ⟨ys[i], List.getElem?_eq_getElem h⟩
/-- a list -/
theorem es_list (h : Ev w n m te σ B (LiP K (xs.map Y))) : EvW w n m (iList K te) σ B xs Y := fun B1 s1 H c R q =>
  h B1 s1 H c _ fun v B2 H2 g2 c2 hv => by
    obtain ⟨a, vs, rfl, h1, h2⟩ := hv
    have hl : vs.length = xs.length := by rw [ps_len h2, List.length_map]
    refine ⟨a, rfl, ⟨vs, sqL_same c2.sub h1⟩, q _ B2 H2 g2 c2 fun u => ⟨fun i k B3 H3 s3 c3 hi => ?_, fun k B3 H3 s3 c3 => ?_, fun i k B3 H3 v H4 s3 c3 hi hy => ?_⟩⟩
    · obtain ⟨y, hy⟩ := nth_some (ys := vs) (i := i) (by rw [hl]; exact hi)
      exact ⟨vs, y, sqL_same (s3.trans c3.sub) h1, hy⟩
    · exact ⟨vs, sqL_same (s3.trans c3.sub) h1, by rw [hl]; exact Nat.le_refl _⟩
    · obtain ⟨rfl, hv⟩ := hy
      obtain ⟨P, e1, e2⟩ := ps_get h2 (hv vs (sqL_same (s3.trans c3.sub) h1))
      rw [List.getElem?_map] at e1
      obtain ⟨x, e3, rfl⟩ := Option.map_eq_some_iff.mp e1
      exact ⟨x, B3, e3, Gr.refl, c3, (Y x).mono v B2 B3 s3 e2⟩
/-- a tuple -/
theorem es_tup (h : Ev w n m te σ B (TuP K (xs.map Y))) : EvW w n m (iTup K te) σ B xs Y := fun B1 s1 H c R q =>
  h B1 s1 H c _ fun v B2 H2 g2 c2 hv => by
    obtain ⟨a, vs, rfl, h1, h2⟩ := hv
    have hl : vs.length = xs.length := by rw [ps_len h2, List.length_map]
    refine ⟨a, rfl, ⟨vs, sqT_same c2.sub h1⟩, q _ B2 H2 g2 c2 fun u => ⟨fun i k B3 H3 s3 c3 hi => ?_, fun k B3 H3 s3 c3 => ?_, fun i k B3 H3 v H4 s3 c3 hi hy => ?_⟩⟩
    · obtain ⟨y, hy⟩ := nth_some (ys := vs) (i := i) (by rw [hl]; exact hi)
      exact ⟨vs, y, sqT_same (s3.trans c3.sub) h1, hy⟩
    · exact ⟨vs, sqT_same (s3.trans c3.sub) h1, by rw [hl]; exact Nat.le_refl _⟩
    · obtain ⟨rfl, hv⟩ := hy
      obtain ⟨P, e1, e2⟩ := ps_get h2 (hv vs (sqT_same (s3.trans c3.sub) h1))
      rw [List.getElem?_map] at e1
      obtain ⟨x, e3, rfl⟩ := Option.map_eq_some_iff.mp e1
      exact ⟨x, B3, e3, Gr.refl, c3, (Y x).mono v B2 B3 s3 e2⟩
/-- range(n) -/
theorem es_rng {ta : TA} {j : Nat} (h : EvA w n m ta σ B [dI K (j : Int)]) (hj : j ≤ 100000) : EvW w n m (iRng1 ta) σ B (List.range j) (fun i => dI K (i : Int)) := fun B1 s1 H c R q =>
  h B1 s1 H c _ fun vs B2 H2 g2 c2 hv => by
    cases hv with
    | cons r t =>
      cases t
      refine ⟨(j : Int), by rw [dd_int r], by omega, by omega, q _ B2 H2 g2 c2 fun u => ⟨fun i k B3 H3 s3 c3 hi => ?_, fun k B3 H3 s3 c3 => ?_, fun i k B3 H3 v H4 s3 c3 hi hy => ?_⟩⟩
      · rw [List.length_range] at hi
        show i < (j : Int).toNat
        omega
      · rw [List.length_range]
        show (j : Int).toNat ≤ j
        omega
      · rw [List.length_range] at hi
        obtain ⟨rfl, rfl⟩ := hy
        refine ⟨i, B3, by rw [List.getElem?_range hi], Gr.refl, c3, ?_⟩
        show Dp K B3 (V.int ((0 : Int) + (i : Int))) (.int (i : Int))
        rw [Int.zero_add]
        exact .int _
/-- a yielded pair is a new tuple -/
theorem yl_pair {v1 v2 : V} {P1 P2 : Pr} {H1 B1 : Hp} {T : Addr} (c : Ctx w l B1 H1) (hT : H1 T = none) (h1 : P1.p v1 B1) (h2 : P2.p v2 B1) :
    ∃ B2, Gr w.S B1 H1 B2 (upd H1 T (.tup [v1, v2])) ∧ Ctx w l B2 (upd H1 T (.tup [v1, v2])) ∧ (TuP K [P1, P2]).p (.ref T) B2 := by
  have bT : B1 T = none := c.sub.free hT
  have s := same_new (o := HO.tup [v1, v2]) bT
  exact ⟨upd B1 T (.tup [v1, v2]), (Gr.refl.mut hT).put bT hT, (c.mut bT (c.notS hT)).put upd_same (c.notS hT), T, _, rfl, st_of upd_same, .cons (P1.mono _ _ _ s h1) (.cons (P2.mono _ _ _ s h2) .nil)⟩
/-- enumerate(list) -/
theorem es_enum {ta : TA} (h : EvA w n m ta σ B [LiP K (xs.map Y)]) : EvW w n m (iEnum K ta) σ B ((List.range xs.length).zip xs) (fun p => TuP K [dI K (p.1 : Int), Y p.2]) := fun B1 s1 H c R q =>
  h B1 s1 H c _ fun vs B2 H2 g2 c2 hv => by
    cases hv with
    | cons r t =>
      cases t
      obtain ⟨a, vs, rfl, h1, h2⟩ := r
      have hl : vs.length = xs.length := by rw [ps_len h2, List.length_map]
      have hz : ((List.range xs.length).zip xs).length = xs.length := by rw [List.length_zip, List.length_range, Nat.min_self]
      refine ⟨a, vs, rfl, sqL_same c2.sub h1, q _ B2 H2 g2 c2 fun u => ⟨fun i k B3 H3 s3 c3 hi => ?_, fun k B3 H3 s3 c3 => ?_, fun i k B3 H3 v H4 s3 c3 hi hy => ?_⟩⟩
      · rw [hz] at hi
        exact (walk_enum (K := K) (a := a) (xs := vs)).goes i H3 (by rw [hl]; exact hi) (sqL_same (s3.trans c3.sub) h1)
      · rw [hz, ← hl]
        exact (walk_enum (K := K) (a := a) (xs := vs)).stops H3 (sqL_same (s3.trans c3.sub) h1)
      · rw [hz] at hi
        obtain ⟨T, v1, v2, rfl, hT, rfl, e1, e2⟩ := (walk_enum (K := K) (a := a) (xs := vs)).yields i H3 v H4 (by rw [hl]; exact hi) (sqL_same (s3.trans c3.sub) h1) hy
        obtain ⟨P, e3, e4⟩ := ps_get h2 e2
        rw [List.getElem?_map] at e3
        obtain ⟨x, e5, rfl⟩ := Option.map_eq_some_iff.mp e3
        have ev1 : v1 = .int (i : Int) := (Option.some.inj e1).symm
        subst ev1
        obtain ⟨B4, g4, c4, p4⟩ := yl_pair (K := K) (P1 := dI K (i : Int)) (P2 := Y x) c3 hT (.int _) ((Y x).mono v2 B2 B3 s3 e4)
        refine ⟨(i, x), B4, ?_, g4, c4, p4⟩
        rw [List.getElem?_zip_eq_some]
        exact ⟨by rw [List.getElem?_range hi], e5⟩
/-- zip of two lists, of two tuples -/
theorem es_zip {β : Type} {ys : List β} {Z : β → Pr} {ta : TA} (h : EvA w n m ta σ B [LiP K (xs.map Y), LiP K (ys.map Z)]) : EvW w n m (iZip K ta) σ B (xs.zip ys) (fun p => TuP K [Y p.1, Z p.2]) := fun B1 s1 H c R q =>
  h B1 s1 H c _ fun vs B2 H2 g2 c2 hv => by
    cases hv with
    | cons r t =>
      cases t with
      | cons r' t =>
        cases t
        obtain ⟨a, vs, rfl, h1, h2⟩ := r
        obtain ⟨b, us, rfl, h3, h4⟩ := r'
        have hl : vs.length = xs.length := by rw [ps_len h2, List.length_map]
        have hl' : us.length = ys.length := by rw [ps_len h4, List.length_map]
        have hz : (xs.zip ys).length = min vs.length us.length := by rw [List.length_zip, hl, hl']
        have W := walk_zip (K := K) (a := a) (b := b) (xs := vs) (ys := us) hz
        refine ⟨a, b, vs, us, rfl, sqL_same c2.sub h1, sqL_same c2.sub h3, q _ B2 H2 g2 c2 fun u => ⟨fun i k B3 H3 s3 c3 hi => ?_, fun k B3 H3 s3 c3 => ?_, fun i k B3 H3 v H4 s3 c3 hi hy => ?_⟩⟩
        · exact W.goes i H3 hi ⟨sqL_same (s3.trans c3.sub) h1, sqL_same (s3.trans c3.sub) h3⟩
        · exact W.stops H3 ⟨sqL_same (s3.trans c3.sub) h1, sqL_same (s3.trans c3.sub) h3⟩
        · obtain ⟨T, v1, v2, rfl, hT, rfl, e1, e2⟩ := W.yields i H3 v H4 hi ⟨sqL_same (s3.trans c3.sub) h1, sqL_same (s3.trans c3.sub) h3⟩ hy
          obtain ⟨P, e3, e4⟩ := ps_get h2 e1
          rw [List.getElem?_map] at e3
          obtain ⟨x, e5, rfl⟩ := Option.map_eq_some_iff.mp e3
          obtain ⟨P, e6, e7⟩ := ps_get h4 e2
          rw [List.getElem?_map] at e6
          obtain ⟨y, e8, rfl⟩ := Option.map_eq_some_iff.mp e6
          obtain ⟨B4, g4, c4, p4⟩ := yl_pair (K := K) (P1 := Y x) (P2 := Z y) c3 hT ((Y x).mono v1 B2 B3 s3 e4) ((Z y).mono v2 B2 B3 s3 e7)
          exact ⟨(x, y), B4, by rw [List.getElem?_zip_eq_some]; exact ⟨e5, e8⟩, g4, c4, p4⟩
/-! ### targets -/
def TgAt (g : TG) (v : V) (σ σ2 : L2.St) (B : Hp) : Prop := ∀ H (Q : L2.St → Hp → Prop), Same B H → Q σ2 H → g v σ H Q
theorem tg_name {j : Nat} {v : V} : TgAt (gName j) v σ (σ.set j (some v)) B := fun _ _ _ q => q
theorem tg_two {i j : Nat} {a : Addr} {v1 v2 : V} (h : SqT K B a [v1, v2]) : TgAt (gTup K 2 (gCons (gName i) (gCons (gName j) gNil))) (.ref a) σ ((σ.set i (some v1)).set j (some v2)) B := fun H Q s q =>
  ⟨a, [v1, v2], rfl, sqT_same s h, rfl, v1, [v2], rfl, v2, [], rfl, rfl, q⟩
theorem two_of {P1 P2 : Pr} {v : V} (h : (TuP K [P1, P2]).p v B) : ∃ a v1 v2, v = .ref a ∧ SqT K B a [v1, v2] ∧ P1.p v1 B ∧ P2.p v2 B := by
  obtain ⟨a, vs, rfl, h1, h2⟩ := h
  cases h2 with
  | cons r t =>
    cases t with
    | cons r' t =>
      cases t
      exact ⟨a, _, _, rfl, h1, r, r'⟩
end

/-! ### comprehensions -/
section
variable {w : Wd} {n m c : Nat} {K : PySem.W.Frag} {σ : L2.St} {B : Hp} {α : Type} {xs : List α} {Y : α → Pr} {wi : TI} {g : TG} {tt : TT} {te : TE} {ws : List Nat}
theorem take_next {β : Type} {ys : List β} {i : Nat} {y : β} (h : ys[i]? = some y) : ys.take (i + 1) = ys.take i ++ [y] := by
  rw [List.take_add_one, h] <;> rfl
theorem ev_lc (p : α → Bool) (e : α → Pr) (hs : EvS w n m wi σ B xs Y) (hlen : xs.length ≤ 90000)
    (ht : ∀ x v B1 l, x ∈ xs → Same B B1 → (Y x).p v B1 → ∃ σ2, TgAt g v (wipe σ ws) σ2 B1 ∧ wipe σ2 ws = wipe σ ws ∧ EvT w l l tt σ2 B1 (p x) ∧ (p x = true → Ev w l (l + c) te σ2 B1 (e x))) :
    Ev w n (m + xs.length * c) (tLc wi g tt te ws) σ B (LoP K ((xs.filter p).map e)) := fun B1 s1 H c1 Q q =>
  hs B1 s1 H c1 _ fun J B2 H2 g2 c2 wk D hD => by
    have hDS : ¬ w.S D := c2.notS hD
    refine ⟨fun i k H' => k = xs.length - i ∧ i ≤ xs.length ∧ ∃ Bi ys, Gr w.S B2 H2 Bi H' ∧ Ctx w (m + i * c) Bi H' ∧ H' D = some (.lst ys) ∧ Bi D = none ∧ PsAt ys (((xs.take i).filter p).map e) Bi, ⟨xs.length, by simp, Nat.zero_le _, B2, [], Gr.refl.mut hD, ?_, upd_same, c2.sub.free hD, .nil⟩, ?_⟩
    · rw [Nat.zero_mul, Nat.add_zero]
      exact c2.mut (c2.sub.free hD) hDS
    rintro i k H' ⟨rfl, hi, Bi, ys, gi, ci, hl, hb, hp⟩
    by_cases hlt : i < xs.length
    · refine .inr ⟨wk.go i _ Bi H' gi.ex ci hlt, fun H'' => i + 1 ≤ xs.length ∧ ∃ Bj zs, Gr w.S B2 H2 Bj H'' ∧ Ctx w (m + (i + 1) * c) Bj H'' ∧ H'' D = some (.lst zs) ∧ Bj D = none ∧ PsAt zs (((xs.take (i + 1)).filter p).map e) Bj, fun H'' h => ⟨xs.length - (i + 1), by omega, rfl, h⟩, fun v H3 hy => ?_⟩
      obtain ⟨x, B3, ex, g3, c3, py⟩ := wk.yld i _ Bi H' v H3 gi.ex ci hlt hy
      have hl3 : H3 D = some (.lst ys) := g3.keep D _ hDS hl
      have hb3 : B3 D = none := g3.out hb (by rw [hl]; exact Option.some_ne_none _)
      have g23 := gi.trans g3
      obtain ⟨σ2, t1, t2, t3, t4⟩ := ht x v B3 (m + i * c) (List.mem_of_getElem? ex) ((s1.trans g2.ex).trans g23.ex) py
      refine t1 H3 _ c3.sub ⟨t2, ?_⟩
      refine t3 B3 (Same.refl _) H3 c3 _ fun b B4 H4 g4 c4 hb4 => ?_
      subst hb4
      have hl4 : H4 D = some (.lst ys) := g4.keep D _ hDS hl3
      have hn4 : B4 D = none := g4.out hb3 (by rw [hl3]; exact Option.some_ne_none _)
      have et : xs.take (i + 1) = xs.take i ++ [x] := take_next ex
      have ems : m + (i + 1) * c = m + i * c + c := by rw [Nat.succ_mul, Nat.add_assoc]
      cases hpx : p x with
      | false =>
        refine iteF ⟨hlt, B4, ys, g23.trans g4, ?_, hl4, hn4, ?_⟩
        · rw [ems]
          exact c4.le (Nat.le_add_right _ _)
        · rw [et, List.filter_append, List.filter_cons, hpx]
          simp only [Bool.false_eq_true, if_false, List.filter_nil, List.append_nil]
          exact psAt_same (g3.ex.trans g4.ex) hp
      | true =>
        refine iteT ?_
        refine t4 hpx B4 g4.ex H4 c4 _ fun y B5 H5 g5 c5 hy5 => ⟨ys, g5.keep D _ hDS hl4, ?_, hlt, B5, ys ++ [y], ?_, ?_, upd_same, ?_, ?_⟩
        · have h1 := ps_len hp
          have h2 := List.length_filter_le p (xs.take i)
          rw [List.length_map] at h1
          rw [List.length_take] at h2
          exact sz_lt (by omega)
        · exact ((g23.trans g4).trans g5).mut hD
        · rw [ems]
          exact c5.mut (g5.out hn4 (by rw [hl4]; exact Option.some_ne_none _)) hDS
        · exact g5.out hn4 (by rw [hl4]; exact Option.some_ne_none _)
        · rw [et, List.filter_append, List.filter_cons, hpx]
          simp only [if_true, List.filter_nil, List.map_append, List.map_cons, List.map_nil]
          exact ps_snoc (psAt_same ((g3.ex.trans g4.ex).trans g5.ex) hp) hy5
    · have ei : i = xs.length := by omega
      subst ei
      refine .inl ⟨wk.stop _ Bi H' gi.ex ci, ?_⟩
      rw [List.take_length] at hp
      exact q _ (upd Bi D (.lst ys)) H' (g2.trans (gi.put hb hD)) (ci.put hl hDS) ⟨D, ys, rfl, upd_same, psAt_same (same_new hb) hp⟩
/-- nothing is left out -/
theorem et_yes {n : Nat} : EvT w n n tYes σ B true := fun B1 _ => Go.one rfl
theorem filter_true {β : Type} : ∀ (ys : List β), ys.filter (fun _ => true) = ys
  | [] => rfl
  | y :: ys => by rw [List.filter_cons, filter_true ys] <;> rfl
theorem ev_lc1 (e : α → Pr) (hs : EvS w n m wi σ B xs Y) (hlen : xs.length ≤ 90000)
    (ht : ∀ x v B1 l, x ∈ xs → Same B B1 → (Y x).p v B1 → ∃ σ2, TgAt g v (wipe σ ws) σ2 B1 ∧ wipe σ2 ws = wipe σ ws ∧ Ev w l (l + c) te σ2 B1 (e x)) :
    Ev w n (m + xs.length * c) (tLc wi g tYes te ws) σ B (LoP K (xs.map e)) := by
  have h := ev_lc (K := K) (te := te) (ws := ws) (g := g) (tt := tYes) (c := c) (fun _ => true) e hs hlen fun x v B1 l hx s1 hy => by
    obtain ⟨σ2, h1, h2, h3⟩ := ht x v B1 l hx s1 hy
    exact ⟨σ2, h1, h2, et_yes, fun _ => h3⟩
  rw [filter_true] at h
  exact h
end
end Pk


set_option Elab.async false
set_option linter.all false
set_option maxRecDepth 100000
set_option maxHeartbeats 4000000
/-! Pk4: statements; lists of one's own that change. -/
namespace Pk
open PySem PySem.Spec PyProof.Rows L2

/-- the world with one more thing that may be changed: at a stands o -/
def wl (w : Wd) (a : Addr) (o : HO) : Wd where
  S := fun b => w.S b ∨ b = a
  W := fun n H => w.W n H ∧ H a = some o
  mono := fun n m H h q => ⟨w.mono n m H h q.1, q.2⟩
  stab := fun n H H' h q => ⟨w.stab n H H' (fun b s => h b (.inl s)) q.1, (h a (.inr rfl)).trans q.2⟩
  has := fun n H b q s => by
    rcases s with s | rfl
    · exact w.has n H b q.1 s
    · rw [q.2]; exact Option.some_ne_none o

/-- where one stands in a def's body: S0, B0, H0: what may be changed, the base, the heap at its start -/
structure At (S0 : Addr → Prop) (w : Wd) (n : Nat) (B0 H0 B H : Hp) : Prop where
  c : Ctx w n B H
  g : Gr S0 B0 H0 B H
  nw : ∀ a, w.S a → S0 a ∨ H0 a = none

section
variable {S0 : Addr → Prop} {w : Wd} {n m l : Nat} {B0 H0 B H B' H' : Hp} {D : Ends} {σ : L2.St} {α : Type} {a : Addr} {o o' : HO}
theorem At.start (c : Ctx w n B H) : At w.S w n B H B H := ⟨c, Gr.refl, fun _ s => .inl s⟩
theorem At.step (t : At S0 w n B0 H0 B H) (g : Gr w.S B H B' H') (c : Ctx w m B' H') : At S0 w m B0 H0 B' H' where
  c := c
  g := {
    ex := t.g.ex.trans g.ex
    keep := fun b u s e => by
      by_cases hw : w.S b
      · rcases t.nw b hw with z | z
        · exact absurd z s
        · rw [z] at e; cases e
      · exact g.keep b u hw (t.g.keep b u s e)
    has := fun b h => g.has b (t.g.has b h)
    fr := fun b h => by
      rcases g.fr b h with z | z
      · exact t.g.fr b z
      · refine .inr ?_
        cases e : H0 b with
        | none => rfl
        | some u => exact absurd z (t.g.has b (by rw [e]; exact Option.some_ne_none u)) }
  nw := t.nw
theorem At.use {k : Hp → (α → Hp → Prop) → Prop} {P : α → Hp → Prop} {Q : α → Hp → Prop} (t : At S0 w n B0 H0 B H) (h : Go w n m k B P) (q : ∀ v B' H', At S0 w m B0 H0 B' H' → Same B B' → P v B' → Q v H') : k H Q :=
  h H t.c Q fun v B' H' g c p => q v B' H' (t.step g c) g.ex p
theorem At.le (t : At S0 w n B0 H0 B H) (h : n ≤ m) : At S0 w m B0 H0 B H := ⟨t.c.le h, t.g, t.nw⟩
/-- a new thing that may be changed -/
theorem At.more (t : At S0 w n B0 H0 B H) (h : H a = none) : At S0 (wl w a o) n B0 H0 B (upd H a o) where
  c := {
    sub := (t.c.mut (t.c.sub.free h) (t.c.notS h)).sub
    cl := fun b s => by
      rcases s with s | rfl
      · exact t.c.cl b s
      · exact t.c.sub.free h
    wd := ⟨(t.c.mut (o := o) (t.c.sub.free h) (t.c.notS h)).wd, upd_same⟩ }
  g := t.g.mut (by
    cases e : H0 a with
    | none => rfl
    | some u => exact absurd h (t.g.has a (by rw [e]; exact Option.some_ne_none u)))
  nw := fun b s => by
    rcases s with s | rfl
    · exact t.nw b s
    · refine .inr ?_
      cases e : H0 b with
      | none => rfl
      | some u => exact absurd h (t.g.has b (by rw [e]; exact Option.some_ne_none u))
theorem At.here (t : At S0 (wl w a o) n B0 H0 B H) : H a = some o := t.c.wd.2
theorem At.outB (t : At S0 (wl w a o) n B0 H0 B H) : B a = none := t.c.cl a (.inr rfl)
/-- it is changed -/
theorem At.set (t : At S0 (wl w a o) n B0 H0 B H) (hw : ¬ w.S a) (h0 : H0 a = none) : At S0 (wl w a o') n B0 H0 B (upd H a o') where
  c := {
    sub := fun b u e => by rw [upd_ne (ne_of_none e t.outB)]; exact t.c.sub b u e
    cl := t.c.cl
    wd := ⟨w.stab n H _ (fun b s => upd_ne fun z => hw (by rw [← z]; exact s)) t.c.wd.1, upd_same⟩ }
  g := t.g.mut h0
  nw := t.nw
/-- it is not changed any more -/
theorem At.less (t : At S0 (wl w a o) n B0 H0 B H) (hw : ¬ w.S a) (h0 : H0 a = none) : At S0 w n B0 H0 (upd B a o) H where
  c := {
    sub := fun b u e => by
      by_cases hb : b = a
      · rw [hb, upd_same] at e
        rw [hb, t.here]
        exact e
      · rw [upd_ne hb] at e
        exact t.c.sub b u e
    cl := fun b s => by
      have hne : b ≠ a := fun z => hw (by rw [← z]; exact s)
      rw [upd_ne hne]
      exact t.c.cl b (.inl s)
    wd := t.c.wd.1 }
  g := t.g.put t.outB h0
  nw := fun b s => t.nw b (.inl s)
/-- it goes out of sight -/
theorem At.drop (t : At S0 (wl w a o) n B0 H0 B H) : At S0 w n B0 H0 B H := ⟨⟨t.c.sub, fun b s => t.c.cl b (.inl s), t.c.wd.1⟩, t.g, fun b s => t.nw b (.inl s)⟩
end

/-! ### statements -/
section
variable {S0 : Addr → Prop} {w : Wd} {n m l : Nat} {K : PySem.W.Frag} {B0 H0 B H : Hp} {D : Ends} {σ : L2.St} {te : TE} {tt : TT} {tu tv tz : TS} {P : Pr}
theorem s_ret (t : At S0 w n B0 H0 B H) (h : Ev w n m te σ B P) (q : ∀ v B' H', At S0 w m B0 H0 B' H' → Same B B' → P.p v B' → D.rt v H') : tRet te D σ H := t.use (h B (Same.refl B)) q
theorem q_asg {i : Nat} (t : At S0 w n B0 H0 B H) (h : Ev w n m te σ B P) (q : ∀ v B' H', At S0 w m B0 H0 B' H' → Same B B' → P.p v B' → tz D (σ.set i (some v)) H') : tSeq (tAsg te (gName i)) tz D σ H :=
  t.use (Q := fun x H1 => gName i x σ H1 (fun σ' H' => tz D σ' H')) (h B (Same.refl B)) q
theorem s_asg {i : Nat} (t : At S0 w n B0 H0 B H) (h : Ev w n m te σ B P) (q : ∀ v B' H', At S0 w m B0 H0 B' H' → Same B B' → P.p v B' → D.nx (σ.set i (some v)) H') : tAsg te (gName i) D σ H :=
  t.use (Q := fun x H1 => gName i x σ H1 D.nx) (h B (Same.refl B)) q
theorem s_if {b : Bool} (t : At S0 w n B0 H0 B H) (h : EvT w n m tt σ B b) (h1 : b = true → ∀ B' H', At S0 w m B0 H0 B' H' → Same B B' → tu D σ H') (h2 : b = false → ∀ B' H', At S0 w m B0 H0 B' H' → Same B B' → tv D σ H') : tIfS tt tu tv D σ H :=
  t.use (Q := fun c H1 => if c = true then tu D σ H1 else tv D σ H1) (h B (Same.refl B)) fun c B' H' t' s' hc => by
    subst hc
    cases c with
    | true => exact h1 rfl B' H' t' s'
    | false => exact h2 rfl B' H' t' s'
theorem q_if {b : Bool} (t : At S0 w n B0 H0 B H) (h : EvT w n m tt σ B b) (h1 : b = true → ∀ B' H', At S0 w m B0 H0 B' H' → Same B B' → tu { D with nx := tz D } σ H')
    (h2 : b = false → ∀ B' H', At S0 w m B0 H0 B' H' → Same B B' → tv { D with nx := tz D } σ H') : tSeq (tIfS tt tu tv) tz D σ H := s_if (D := { D with nx := tz D }) t h h1 h2
/-- if without else -/
theorem q_when {b : Bool} (t : At S0 w n B0 H0 B H) (h : EvT w n m tt σ B b) (h1 : b = true → ∀ B' H', At S0 w m B0 H0 B' H' → Same B B' → tu { D with nx := tz D } σ H')
    (h2 : b = false → ∀ B' H', At S0 w m B0 H0 B' H' → Same B B' → tz D σ H') : tSeq (tIfS tt tu tNext) tz D σ H := s_if (D := { D with nx := tz D }) t h h1 h2
theorem s_when {b : Bool} (t : At S0 w n B0 H0 B H) (h : EvT w n m tt σ B b) (h1 : b = true → ∀ B' H', At S0 w m B0 H0 B' H' → Same B B' → tu D σ H')
    (h2 : b = false → ∀ B' H', At S0 w m B0 H0 B' H' → Same B B' → D.nx σ H') : tIfS tt tu tNext D σ H := s_if t h h1 h2
/-- an if whose test is known to fail: its branch is not looked at -/
theorem q_no (t : At S0 w n B0 H0 B H) (h : EvT w n m tt σ B false) (q : ∀ B' H', At S0 w m B0 H0 B' H' → Same B B' → tz D σ H') : tSeq (tIfS tt tu tNext) tz D σ H := q_when t h (fun z => by cases z) fun _ => q
theorem s_no (t : At S0 w n B0 H0 B H) (h : EvT w n m tt σ B false) (q : ∀ B' H', At S0 w m B0 H0 B' H' → Same B B' → D.nx σ H') : tIfS tt tu tNext D σ H := s_when t h (fun z => by cases z) fun _ => q
/-- a, b = e1, e2: two names -/
theorem q_par {i j : Nat} {P1 P2 : Pr} {ta : TA} (t : At S0 w n B0 H0 B H) (h : EvA w n m ta σ B [P1, P2]) (q : ∀ v1 v2 B' H', At S0 w m B0 H0 B' H' → Same B B' → P1.p v1 B' → P2.p v2 B' → tz D ((σ.set i (some v1)).set j (some v2)) H') :
    tSeq (tPar i j ta) tz D σ H :=
  t.use (Q := fun vs H1 => ∃ v u, vs = [v, u] ∧ tz D ((σ.set i (some v)).set j (some u)) H1) (h B (Same.refl B)) fun vs B' H' t' s' hp => by
    cases hp with
    | cons r1 r =>
      cases r with
      | cons r2 r =>
        cases r
        exact ⟨_, _, rfl, q _ _ B' H' t' s' r1 r2⟩
/-- a new empty list of one's own -/
theorem q_nil {i : Nat} (t : At S0 w n B0 H0 B H) (q : ∀ a H', At S0 (wl w a (.lst [])) n B0 H0 B H' → ¬ w.S a → H0 a = none → tz D (σ.set i (some (.ref a))) H') : tSeq (tAsg (tLst tNil) (gName i)) tz D σ H := by
  refine ⟨Nat.zero_le _, fun a ha => ?_⟩
  refine q a _ (t.more ha) (t.c.notS ha) ?_
  cases e : H0 a with
  | none => rfl
  | some u => exact absurd ha (t.g.has a (by rw [e]; exact Option.some_ne_none u))
/-- x.append(e), x such a list -/
theorem q_app {i : Nat} {a : Addr} {vs : List V} (t : At S0 (wl w a (.lst vs)) n B0 H0 B H) (hw : ¬ w.S a) (h0 : H0 a = none) (hi : σ[i]? = some (some (.ref a))) (hl : vs.length ≤ 90000) (h : Ev (wl w a (.lst vs)) n m te σ B P)
    (q : ∀ v B' H', At S0 (wl w a (.lst (vs ++ [v]))) m B0 H0 B' H' → Same B B' → P.p v B' → tz D σ H') : tSeq (tDrop (tBM K "list" rAppend (tVar i) (tCons te tNil))) tz D σ H := by
  refine ⟨.ref a, hi, .inl ⟨rfl, _, sl_of t.here⟩, ?_⟩
  refine t.use (Q := fun y H1 => rAppend (.ref a) [y] H1 (fun _ H1 => tz D σ H1)) (h B (Same.refl B)) fun v B' H' t' s' hv => ?_
  exact ⟨a, vs, v, rfl, rfl, t'.here, sz_lt (by omega), q v B' _ (t'.set hw h0) s' hv⟩
theorem s_app {i : Nat} {a : Addr} {vs : List V} (t : At S0 (wl w a (.lst vs)) n B0 H0 B H) (hw : ¬ w.S a) (h0 : H0 a = none) (hi : σ[i]? = some (some (.ref a))) (hl : vs.length ≤ 90000) (h : Ev (wl w a (.lst vs)) n m te σ B P)
    (q : ∀ v B' H', At S0 (wl w a (.lst (vs ++ [v]))) m B0 H0 B' H' → Same B B' → P.p v B' → D.nx σ H') : tDrop (tBM K "list" rAppend (tVar i) (tCons te tNil)) D σ H := by
  refine ⟨.ref a, hi, .inl ⟨rfl, _, sl_of t.here⟩, ?_⟩
  refine t.use (Q := fun y H1 => rAppend (.ref a) [y] H1 (fun _ H1 => D.nx σ H1)) (h B (Same.refl B)) fun v B' H' t' s' hv => ?_
  exact ⟨a, vs, v, rfl, rfl, t'.here, sz_lt (by omega), q v B' _ (t'.set hw h0) s' hv⟩
/-- what such a list tells: its length, an item -/
theorem ev_lenW {i : Nat} {a : Addr} {vs : List V} (hi : σ[i]? = some (some (.ref a))) : Ev (wl w a (.lst vs)) n n (tCB (fun xs H Q => ∃ p ys, xs = [V.ref p] ∧ (SqL K H p ys ∨ SqT K H p ys) ∧ Q (.int ys.length) H) (tCons (tVar i) tNil)) σ B (dI K (vs.length : Nat)) := fun B1 s1 H c Q q =>
  ⟨.ref a, hi, a, vs, rfl, .inl (sl_of c.wd.2), q _ B1 H Gr.refl c (.int _)⟩
theorem ev_ixW {i : Nat} {a : Addr} {vs : List V} {j : Int} {v : V} {tj : TE} (hi : σ[i]? = some (some (.ref a))) (hj : Ev (wl w a (.lst vs)) n m tj σ B (dI K j)) (e : atI vs j = some v) (hv : P.p v B) : Ev (wl w a (.lst vs)) n m (tOp (rIxL K) (tVar i) tj) σ B P := fun B1 s1 H c Q q =>
  ⟨.ref a, hi, hj B1 s1 H c _ fun x B2 H2 g2 c2 hx => by
    obtain rfl := dd_int hx
    exact ⟨a, vs, j, v, rfl, rfl, sl_of c2.wd.2, e, q v B2 H2 g2 c2 (P.mono v B B2 (s1.trans g2.ex) hv)⟩⟩
/-- for: I by the turn, the base ahead of the loop, the world of this turn and its budget, the slots, the base -/
abbrev Lp (S0 : Addr → Prop) (B0 H0 Bs : Hp) (I : Nat → Hp → Wd → Nat → L2.St → Hp → Prop) (i : Nat) : L2.St → Hp → Prop := fun σ H => ∃ u k B, At S0 u k B0 H0 B H ∧ Same Bs B ∧ I i Bs u k σ B
theorem q_for {α : Type} {wi : TI} {g : TG} {xs : List α} {Y : α → Pr} (I : Nat → Hp → Wd → Nat → L2.St → Hp → Prop) (t : At S0 w n B0 H0 B H) (hs : EvW w n m wi σ B xs Y)
    (h0 : ∀ B1, Same B B1 → I 0 B1 w m σ B1)
    (ht : ∀ i x v Bs u k σ' B1 B2 H2, xs[i]? = some x → Same B Bs → Same Bs B1 → I i Bs u k σ' B1 → At S0 u k B0 H0 B2 H2 → Same B1 B2 → (Y x).p v B2 →
      g v σ' H2 fun σ2 H3 => tu { D with nx := Lp S0 B0 H0 Bs I (i + 1), ct := Lp S0 B0 H0 Bs I (i + 1), bk := tz D } σ2 H3)
    (hd : ∀ Bs u k σ' B1 H1, Same B Bs → Same Bs B1 → At S0 u k B0 H0 B1 H1 → I xs.length Bs u k σ' B1 → tz D σ' H1) : tSeq (tFor wi g tu) tz D σ H := by
  refine hs B (Same.refl B) H t.c _ fun J Bs Hs gs cs wk => ?_
  refine ⟨fun i k σ' H' => k = xs.length - i ∧ i ≤ xs.length ∧ Lp S0 B0 H0 Bs I i σ' H', ⟨xs.length, by simp, Nat.zero_le _, w, m, Bs, t.step gs cs, Same.refl Bs, h0 Bs gs.ex⟩, ?_⟩
  rintro i k σ' H' ⟨rfl, hi, u, k, B1, t1, sm, hI1⟩
  by_cases hlt : i < xs.length
  · refine .inr ⟨(wk u).go i k B1 H' sm t1.c hlt, Lp S0 B0 H0 Bs I (i + 1), fun σ4 H4 h => ⟨xs.length - (i + 1), by omega, rfl, hlt, h⟩, fun v H2 hy => ?_⟩
    obtain ⟨x, B2, ex, g2, c2, py⟩ := (wk u).yld i k B1 H' v H2 sm t1.c hlt hy
    exact ht i x v Bs u k σ' B1 B2 H2 ex gs.ex sm hI1 (t1.step g2 c2) g2.ex py
  · have e : i = xs.length := by omega
    subst e
    exact .inl ⟨(wk u).stop k B1 H' sm t1.c, hd Bs u k σ' B1 H' gs.ex sm t1 hI1⟩
end
end Pk


set_option Elab.async false
set_option linter.all false
set_option maxRecDepth 100000
set_option maxHeartbeats 4000000
/-! PkT: the text: where its defs stand; calls of defs. -/
namespace PkH
open PySem PySem.Spec PyProof.Rows L2
abbrev prg : Program := PySem.Challenge.pw_peaksums_k67_whole_some_one_fits_or_none
def top (i : Nat) : Stmt := prg.main.body.getD i (.Pass ⟨0, 0, 0, 0⟩)
/-- the getter of the property m of the class x -/
def getAd (x m : Str) (K : PySem.W.Frag) : Addr := match PySem.W.recIn K (He.ma K (He.ga K x) m) "property" with
  | some (.ref g :: _) => g
  | _ => 0
/-- the default of Roll's steps -/
def dflS (K : PySem.W.Frag) : Addr := match K.lookup (He.ma K (He.ga K "Roll") "__init__") with
  | some ⟨_, _, .func fd, _⟩ => (match fd.defaults with
    | .ref T => (match K.lookup T with
      | some ⟨_, _, .seq its _, _⟩ => (match its.toList with
        | [.ref a] => a
        | _ => 0)
      | _ => 0)
    | _ => 0)
  | _ => 0
abbrev FnP (K : PySem.W.Frag) (x qual : Str) (st : Stmt) (f : Addr) (fd : FuncData) : Prop := FunD K x qual (defArgs st) (defBody st) (defScope st) [] [] f fd
structure Txt (K : PySem.W.Frag) (mg : Str → Option Value) : Prop where
  f_is_number : ∃ fd, FnP K "is_number" "is_number" (top 4) (He.ga K "is_number") fd
  g_is_number : mg "is_number" = some (.ref (He.ga K "is_number"))
  f_is_name : ∃ fd, FnP K "is_name" "is_name" (top 5) (He.ga K "is_name") fd
  g_is_name : mg "is_name" = some (.ref (He.ga K "is_name"))
  f_tupled : ∃ fd, FnP K "tupled" "tupled" (top 6) (He.ga K "tupled") fd
  g_tupled : mg "tupled" = some (.ref (He.ga K "tupled"))
  f_set_of : ∃ fd, FnP K "set_of" "set_of" (top 7) (He.ga K "set_of") fd
  g_set_of : mg "set_of" = some (.ref (He.ga K "set_of"))
  f_stretches : ∃ fd, FnP K "stretches" "stretches" (top 37) (He.ga K "stretches") fd
  g_stretches : mg "stretches" = some (.ref (He.ga K "stretches"))
  f_blocks_of : ∃ fd, FnP K "blocks_of" "blocks_of" (top 38) (He.ga K "blocks_of") fd
  g_blocks_of : mg "blocks_of" = some (.ref (He.ga K "blocks_of"))
  f_plain_of : ∃ fd, FnP K "plain_of" "plain_of" (top 39) (He.ga K "plain_of") fd
  g_plain_of : mg "plain_of" = some (.ref (He.ga K "plain_of"))
  f_rolled : ∃ fd, FnP K "rolled" "rolled" (top 44) (He.ga K "rolled") fd
  g_rolled : mg "rolled" = some (.ref (He.ga K "rolled"))
  f_kinds_at : ∃ fd, FnP K "kinds_at" "kinds_at" (top 45) (He.ga K "kinds_at") fd
  g_kinds_at : mg "kinds_at" = some (.ref (He.ga K "kinds_at"))
  f_peeled : ∃ fd, FnP K "peeled" "peeled" (top 46) (He.ga K "peeled") fd
  g_peeled : mg "peeled" = some (.ref (He.ga K "peeled"))
  f_one_fitting : ∃ fd, FnP K "one_fitting" "one_fitting" (top 47) (He.ga K "one_fitting") fd
  g_one_fitting : mg "one_fitting" = some (.ref (He.ga K "one_fitting"))
  f_refuting : ∃ fd, FnP K "refuting" "refuting" (top 48) (He.ga K "refuting") fd
  g_refuting : mg "refuting" = some (.ref (He.ga K "refuting"))
  f_is_refuting : ∃ fd, FnP K "is_refuting" "is_refuting" (top 49) (He.ga K "is_refuting") fd
  g_is_refuting : mg "is_refuting" = some (.ref (He.ga K "is_refuting"))
  f_law_box : ∃ fd, FnP K "_law_box" "_law_box" (top 51) (He.ga K "_law_box") fd
  g_law_box : mg "_law_box" = some (.ref (He.ga K "_law_box"))
  f_law_take : ∃ fd, FnP K "_law_take" "_law_take" (top 52) (He.ga K "_law_take") fd
  g_law_take : mg "_law_take" = some (.ref (He.ga K "_law_take"))
  f_law_cells : ∃ fd, FnP K "_law_cells" "_law_cells" (top 53) (He.ga K "_law_cells") fd
  g_law_cells : mg "_law_cells" = some (.ref (He.ga K "_law_cells"))
  f_law_of : ∃ fd, FnP K "_law_of" "_law_of" (top 54) (He.ga K "_law_of") fd
  g_law_of : mg "_law_of" = some (.ref (He.ga K "_law_of"))
  f_law_same : ∃ fd, FnP K "_law_same" "_law_same" (top 55) (He.ga K "_law_same") fd
  g_law_same : mg "_law_same" = some (.ref (He.ga K "_law_same"))
  f_law_pick : ∃ fd, FnP K "_law_pick" "_law_pick" (top 56) (He.ga K "_law_pick") fd
  g_law_pick : mg "_law_pick" = some (.ref (He.ga K "_law_pick"))
  f_law_tags : ∃ fd, FnP K "_law_tags" "_law_tags" (top 57) (He.ga K "_law_tags") fd
  g_law_tags : mg "_law_tags" = some (.ref (He.ga K "_law_tags"))
  f_law_line : ∃ fd, FnP K "_law_line" "_law_line" (top 58) (He.ga K "_law_line") fd
  g_law_line : mg "_law_line" = some (.ref (He.ga K "_law_line"))
  f_law_orders : ∃ fd, FnP K "_law_orders" "_law_orders" (top 59) (He.ga K "_law_orders") fd
  g_law_orders : mg "_law_orders" = some (.ref (He.ga K "_law_orders"))
  f_law_kinds : ∃ fd, FnP K "_law_kinds" "_law_kinds" (top 60) (He.ga K "_law_kinds") fd
  g_law_kinds : mg "_law_kinds" = some (.ref (He.ga K "_law_kinds"))
  f_law_sets : ∃ fd, FnP K "_law_sets" "_law_sets" (top 61) (He.ga K "_law_sets") fd
  g_law_sets : mg "_law_sets" = some (.ref (He.ga K "_law_sets"))
  f_law_outer : ∃ fd, FnP K "_law_outer" "_law_outer" (top 62) (He.ga K "_law_outer") fd
  g_law_outer : mg "_law_outer" = some (.ref (He.ga K "_law_outer"))
  f_law_plain : ∃ fd, FnP K "_law_plain" "_law_plain" (top 63) (He.ga K "_law_plain") fd
  g_law_plain : mg "_law_plain" = some (.ref (He.ga K "_law_plain"))
  f_law_text : ∃ fd, FnP K "_law_text" "_law_text" (top 64) (He.ga K "_law_text") fd
  g_law_text : mg "_law_text" = some (.ref (He.ga K "_law_text"))
  f_law_all : ∃ fd, FnP K "_law_all" "_law_all" (top 65) (He.ga K "_law_all") fd
  g_law_all : mg "_law_all" = some (.ref (He.ga K "_law_all"))
  f_law_fitting : ∃ fd, FnP K "_law_fitting" "_law_fitting" (top 66) (He.ga K "_law_fitting") fd
  g_law_fitting : mg "_law_fitting" = some (.ref (He.ga K "_law_fitting"))
  f_law_lot : ∃ fd, FnP K "_law_lot" "_law_lot" (top 67) (He.ga K "_law_lot") fd
  g_law_lot : mg "_law_lot" = some (.ref (He.ga K "_law_lot"))
  f_law_pairs : ∃ fd, FnP K "_law_pairs" "_law_pairs" (top 68) (He.ga K "_law_pairs") fd
  g_law_pairs : mg "_law_pairs" = some (.ref (He.ga K "_law_pairs"))
  f_law_lists : ∃ fd, FnP K "_law_lists" "_law_lists" (top 69) (He.ga K "_law_lists") fd
  g_law_lists : mg "_law_lists" = some (.ref (He.ga K "_law_lists"))
  f_law_left : ∃ fd, FnP K "_law_left" "_law_left" (top 70) (He.ga K "_law_left") fd
  g_law_left : mg "_law_left" = some (.ref (He.ga K "_law_left"))
  f_law_closed : ∃ fd, FnP K "_law_closed" "_law_closed" (top 71) (He.ga K "_law_closed") fd
  g_law_closed : mg "_law_closed" = some (.ref (He.ga K "_law_closed"))
  f_law_case_right : ∃ fd, FnP K "_law_case_right" "_law_case_right" (top 72) (He.ga K "_law_case_right") fd
  g_law_case_right : mg "_law_case_right" = some (.ref (He.ga K "_law_case_right"))
  f_law_by_hand_right : ∃ fd, FnP K "_law_by_hand_right" "_law_by_hand_right" (top 73) (He.ga K "_law_by_hand_right") fd
  g_law_by_hand_right : mg "_law_by_hand_right" = some (.ref (He.ga K "_law_by_hand_right"))
  f_law_right : ∃ fd, FnP K "_law_right" "_law_right" (top 74) (He.ga K "_law_right") fd
  g_law_right : mg "_law_right" = some (.ref (He.ga K "_law_right"))
  f_law : ∃ fd, FnP K "law" "law" (top 75) (He.ga K "law") fd
  g_law : mg "law" = some (.ref (He.ga K "law"))
  m_len : mg "len" = none
  m_isinstance : mg "isinstance" = none
  m_tuple : mg "tuple" = none
  m_sorted : mg "sorted" = none
  m_set : mg "set" = none
  m_list : mg "list" = none
  m_enumerate : mg "enumerate" = none
  m_zip : mg "zip" = none
  m_range : mg "range" = none
  m_min : mg "min" = none
  m_abs : mg "abs" = none
  m_int : mg "int" = none
  m_all : mg "all" = none
  m_str : mg "str" = none
  m_bool : mg "bool" = none
  c_two : ∃ t, mg "PAIR_told" = some (.int 2 t)
  c_longest : ∃ t, mg "LONGEST" = some (.int 8 t)
  c_SUM : ∃ t, mg "SUM" = some (.str "sum" t)
  c_MAX : ∃ t, mg "MAX" = some (.str "max" t)
  c_NOTHING : ∃ t, mg "NOTHING" = some (.str "-" t)
  c_LETTERS : ∃ t, mg "LETTERS" = some (.str "abcdefghijklmnopqrstuvwxyz" t)
  g_KINDS : mg "KINDS" = some (.ref (He.ga K "KINDS"))
  t_KINDS : ∀ H, SqT K H (He.ga K "KINDS") [.str "sum", .str "max"]
  g_Step : mg "Step" = some (.ref (He.ga K "Step"))
  cl_Step : Cls K (He.ga K "Step")
  mk_Step : Mk K (He.ga K "Step") (He.ma K (He.ga K "Step") "__init__")
  g_Roll : mg "Roll" = some (.ref (He.ga K "Roll"))
  cl_Roll : Cls K (He.ga K "Roll")
  mk_Roll : Mk K (He.ga K "Roll") (He.ma K (He.ga K "Roll") "__init__")
  n_own_kind : NoAttr K (He.ga K "Step") "own_kind"
  n_own_label : NoAttr K (He.ga K "Step") "own_label"
  n_own_steps : NoAttr K (He.ga K "Roll") "own_steps"
  n_own_blocks : NoAttr K (He.ga K "Roll") "own_blocks"
  f_Step_init : ∃ fd, FnP K "__init__" "Step.__init__" (inClass (top 35) 0) (He.ma K (He.ga K "Step") "__init__") fd
  f_Roll_init : ∃ fd, FunD K "__init__" "Roll.__init__" (defArgs (inClass (top 41) 0)) (defBody (inClass (top 41) 0)) (defScope (inClass (top 41) 0)) [.ref (dflS K)] [] (He.ma K (He.ga K "Roll") "__init__") fd
  p_Step_kind : PropOf K (He.ga K "Step") "kind" (He.ma K (He.ga K "Step") "kind") (getAd "Step" "kind" K)
  f_Step_kind : ∃ fd, FnP K "kind" "Step.kind" (inClass (top 35) 2) (getAd "Step" "kind" K) fd
  p_Step_label : PropOf K (He.ga K "Step") "label" (He.ma K (He.ga K "Step") "label") (getAd "Step" "label" K)
  f_Step_label : ∃ fd, FnP K "label" "Step.label" (inClass (top 35) 3) (getAd "Step" "label" K) fd
  p_Step_text : PropOf K (He.ga K "Step") "text" (He.ma K (He.ga K "Step") "text") (getAd "Step" "text" K)
  f_Step_text : ∃ fd, FnP K "text" "Step.text" (inClass (top 35) 4) (getAd "Step" "text" K) fd
  p_Roll_text : PropOf K (He.ga K "Roll") "text" (He.ma K (He.ga K "Roll") "text") (getAd "Roll" "text" K)
  f_Roll_text : ∃ fd, FnP K "text" "Roll.text" (inClass (top 41) 3) (getAd "Roll" "text" K) fd
  f_Roll_eq : ∃ fd, FnP K "__eq__" "Roll.__eq__" (inClass (top 41) 13) (He.ma K (He.ga K "Roll") "__eq__") fd
  e_Roll_eq : Meth K (He.ga K "Roll") "__eq__" (He.ma K (He.ga K "Roll") "__eq__")
  e_Roll_ne : PySem.W.findIn K (.ref (He.ga K "Roll")) "__ne__" = some (some (.builtin "object.__ne__"))
end PkH
namespace Pk
open PySem PySem.Spec PyProof.Rows L2 PkH
/-- a def that the text calls by its name -/
def Cal (P : Program) (w : World) (K : PySem.W.Frag) (mg : Str → Option Value) (base : Heap) (k : Nat) (x : Str) (ps : List Str) (sp : Sp) : Prop := ∃ f fd, FnOk P w K mg base CX0 k f fd ps sp ∧ mg x = some (.ref f) ∧ PySem.W.keepIn K (.ref f) = true ∧ Binds K fd ps []
section
variable {P : Program} {w : World} {K : PySem.W.Frag} {mg : Str → Option Value} {base : Heap} {k j : Nat} {x : Str} {ps : List Str} {sp : Sp}
theorem Cal.mono (c : Cal P w K mg base j x ps sp) (h : j ≤ k) : Cal P w K mg base k x ps sp := by
  obtain ⟨f, fd, h1, h2, h3, h4⟩ := c
  exact ⟨f, fd, h1.mono h, h2, h3, h4⟩
theorem Cal.imp {sp' : Sp} (c : Cal P w K mg base k x ps sp) (h : ∀ vs H Q E, sp' vs H Q E → sp vs H Q E) : Cal P w K mg base k x ps sp' := by
  obtain ⟨f, fd, h1, h2, h3, h4⟩ := c
  exact ⟨f, fd, h1.imp h, h2, h3, h4⟩
end
section
variable {X : Cx} {k : Nat} {x : Str} {ps : List Str} {sp : Sp} {p pos : Pos} {e : Expr} {es : List Expr} {t : TA}
theorem pe_cal (c : Cal X.prog X.w X.K X.mg X.base k x ps sp) (hr : Room k X.A) (ha : PA X (e :: es) t) (hg : Gl X x := by rfl) (hdb : (x == ("__debug__" : Str)) = false := by decide) (he : starEach (e :: es) X.env = (false, eval e X.env) :: starEach es X.env := by rfl)
    (hpl : (backTo pos (starEach es X.env)).any (·.1) = false := by rfl) : PE X (.Call (.Name x p) (e :: es) [] pos) (tCall sp [] E0 t) := by
  obtain ⟨f, fd, h1, h2, h3, h4⟩ := c
  exact pe_call h1 hr hg h2 h3 h4 .nil pass0 ha hdb he hpl
theorem pe_cal0 (c : Cal X.prog X.w X.K X.mg X.base k x ps sp) (hr : Room k X.A) (hg : Gl X x := by rfl) (hdb : (x == ("__debug__" : Str)) = false := by decide) : PE X (.Call (.Name x p) [] [] pos) (tCall sp [] E0 tNil) := by
  obtain ⟨f, fd, h1, h2, h3, h4⟩ := c
  exact pe_call0 h1 hr hg h2 h3 h4 .nil pass0 hdb
/-- a def's body: what it gives back -/
theorem spF_body {G : List Pr → Pr → Prop} {vs : List V} {H : Hp} {Q : VK} {E : XK} {t : TS} {N : List Str} (h : spF G vs H Q E)
    (hb : ∀ B Ps P, Same B H → PsAt vs Ps B → G Ps P → ∀ D : Ends, (∀ n v B' H', At (fun _ => False) w0 n B H B' H' → P.p v B' → D.rt v H') → t D (start N vs) H) : t { nx := fun _ H' => Q .non H', rt := Q } (start N vs) H := by
  obtain ⟨B, Ps, P, hs, hp, hG, q⟩ := h
  exact hb B Ps P hs hp hG _ fun n v B' H' a hv => q v B' H' a.g a.c.sub hv
theorem spF_len {G : List Pr → Pr → Prop} {n : Nat} (h : ∀ Ps P, G Ps P → Ps.length = n) : ∀ vs H Q E, spF G vs H Q E → vs.length = n := fun vs H Q E ⟨B, Ps, P, _, hp, hG, _⟩ => by
  rw [ps_len hp, h Ps P hG]
/-- a def by its body -/
theorem cal_of {P : Program} {w : World} {K : PySem.W.Frag} {mg : Str → Option Value} {base : Heap} {x qual : Str} {st : Stmt} {f : Addr} {fd : FuncData} {N ps : List Str} {k : Nat} {G : List Pr → Pr → Prop} (F : FnP K x qual st f fd) (g : mg x = some (.ref f)) (S : FnScope N ps (defScope st))
    (hl : ∀ Ps P, G Ps P → Ps.length = ps.length)
    (hb : ∀ (kV doc pm : Value) (an : Option Addr) (cdv ct : Value) (us : List Value), us.length = ps.length → bindArgs (PySem.W.fnOf x qual (defArgs st) (defBody st) (defScope st) .none kV doc pm an cdv ct) ⟨us, []⟩ = pure (ps.zip us))
    (body : ∀ (cdv : Value) (A : Around) (outer : List Env) (s : Shared) (H : Hp) (E : XK), Room k (A.deeper (envOfC qual (defScope st) s.heap.objs.size f cdv)) →
      ∃ t, PSs (cxOf CX0 P w K mg base N qual (defScope st) f cdv A outer s H E) (defBody st) t ∧ ∀ H B vs Ps P0, Same B H → PsAt vs Ps B → G Ps P0 → ∀ D : Ends, (∀ n v B' H', At (fun _ => False) w0 n B H B' H' → P0.p v B' → D.rt v H') → t D (start N vs) H) :
    Cal P w K mg base (k + 1) x ps (spF G) := by
  refine ⟨f, fd, F.ok S (spF_len hl) fun cdv A outer s H vs Q E hr h => ?_, g, F.kp, F.bindsN hb⟩
  obtain ⟨t, ht, hq⟩ := body cdv A outer s H E hr
  exact ⟨t, ht, spF_body h fun B Ps P0 hs hp hG D q => hq H B vs Ps P0 hs hp hG D q⟩
theorem Pr.up {P : Pr} {v : V} {B B' : Hp} (h : P.p v B) (s : Same B B') : P.p v B' := P.mono v B B' s h
theorem dd_up {K : PySem.W.Frag} {d : PyData} {v : V} {B B' : Hp} (h : (DD K d).p v B) (s : Same B B') : (DD K d).p v B' := dp_same s d v h
theorem at0 {B H : Hp} (h : Same B H) : At (fun _ => False) w0 0 B H B H := At.start (w := w0) (Ctx.at0 h)
end
end Pk


set_option Elab.async false
set_option linter.all false
set_option maxRecDepth 100000
set_option maxHeartbeats 4000000
/-! PkR: the layer's rules with the written part named, so that they may stand in a comprehension's block. -/
namespace Pk
open PySem PySem.Spec PyProof.Rows L2
section
variable {X : Cx} {K : PySem.W.Frag} {tg e e2 o f : Expr} {es : List Expr} {te to tv : TE} {ta t : TA} {pos apos p : Pos}
theorem kp_list {tl : TE} {l : Expr} (q : X.K = K) (h : PE X l tl) : PI X tg l (iList K tl) := by subst q; exact pi_list h
theorem kp_tup {tl : TE} {l : Expr} (q : X.K = K) (h : PE X l tl) : PI X tg l (iTup K tl) := by subst q; exact pi_tup h
theorem kp_zip (q : X.K = K) (h : PI X tg e (iZip X.K ta)) : PI X tg e (iZip K ta) := by subst q; exact h
theorem kp_zipA (q : X.K = K) (h : PI X tg e (RZ.iZipA X.K ta)) : PI X tg e (RZ.iZipA K ta) := by subst q; exact h
theorem kp_enum (q : X.K = K) (h : PI X tg e (iEnum X.K ta)) : PI X tg e (iEnum K ta) := by subst q; exact h
theorem kg_tup {k : Nat} {u : TGs} {n : Nat} (q : X.K = K) (hc : X.calm = true) (h : PGs X es u) (hn : (assignEach es X.env).length = n := by rfl) (hst : (assignEach es X.env).findIdx? (·.1) = none := by rfl) : PG X (.Tuple es k pos) (gTup K n u) := by
  subst q
  exact pg_tup hc h hn hst
theorem kx_list (q : X.K = K) : IxR X (rIxL K) := by subst q; exact ix_list
theorem kx_tup (q : X.K = K) : IxR X (rIxT K) := by subst q; exact ix_tup
theorem ks_list (q : X.K = K) : SlR X (rSlL K) := by subst q; exact sl_list
theorem ks_tup (q : X.K = K) : SlR X (rSlA K) := by subst q; exact sl_tupA
theorem ko_catT (q : X.K = K) : OpR X (binaryOp .Add) (rCatA K) := by subst q; exact op_catA
theorem ko_in (q : X.K = K) : OpR X (compareOp .In) (rIn K false) := by subst q; exact op_in_seq
theorem ko_notIn (q : X.K = K) : OpR X (compareOp .NotIn) (rIn K true) := by subst q; exact op_notIn_seq
theorem ko_eq (q : X.K = K) (hu : X.A.units + 64 < cLine) : OpR X (compareOp .Eq) (rEqD K) := by subst q; exact op_eqD hu
theorem ko_ne (q : X.K = K) (hu : X.A.units + 64 < cLine) : OpR X (compareOp .NotEq) (rNeD K) := by subst q; exact op_neD hu
theorem kc_len (q : X.K = K) : CallR X (.builtin "len") (fun xs H Q => ∃ p ys, xs = [V.ref p] ∧ (SqL K H p ys ∨ SqT K H p ys) ∧ Q (.int ys.length) H) := by subst q; exact call_len_seq
theorem kc_list (q : X.K = K) : CallR X (.type "list") (fun xs H Q => ∃ p ys, xs = [V.ref p] ∧ (SqL K H p ys ∨ SqT K H p ys) ∧ ∀ l, H l = none → Q (.ref l) (upd H l (.lst ys))) := by subst q; exact call_list_of
theorem kc_tup (q : X.K = K) : CallR X (.type "tuple") (fun xs H Q => ∃ p ys, xs = [V.ref p] ∧ ((SqL K H p ys ∧ ∀ l, H l = none → Q (.ref l) (upd H l (.tup ys))) ∨ (SqT K H p ys ∧ Q (.ref p) H))) := by subst q; exact call_tuple_of
theorem kc_all (q : X.K = K) (hc : X.calm = true) : CallR X (.builtin "all") (rAll K) := by subst q; exact cr_all hc
theorem kc_isi (q : X.K = K) : CallR X (.builtin "isinstance") (rIsi K) := by subst q; exact call_isi
theorem kc_isiT (q : X.K = K) : CallR X (.builtin "isinstance") (rIsiT K) := by subst q; exact call_isiT
theorem kc_sortS (q : X.K = K) : CallR X (.builtin "sorted") (rSortedS K) := by subst q; exact cr_sortedS
theorem ke_bm {T : String} {name : Str} {r : V → List V → Hp → VK → Prop} (q : X.K = K) (h : PE X (.Call (.Attribute o name apos) es [] pos) (tBM X.K T r to t)) : PE X (.Call (.Attribute o name apos) es [] pos) (tBM K T r to t) := by subst q; exact h
theorem ke_fld {f : Str} (q : X.K = K) (h : PE X (.Attribute o f pos) (tFld X.K to f)) : PE X (.Attribute o f pos) (tFld K to f) := by subst q; exact h
theorem kst_fld {f : Str} {tgp : Pos} {value : Expr} (q : X.K = K) (h : PS X (.Assign [.Attribute o f tgp] value pos) (sFld X.K to tv f)) : PS X (.Assign [.Attribute o f tgp] value pos) (sFld K to tv f) := by subst q; exact h
theorem ke_rev {k : Nat} {p1 p2 p3 : Pos} (q : X.K = K) (he : PE X e te) : PE X (.Subscript e (.Slice none none (some (.UnaryOp .USub (.Constant (.int 1) k p1) p2)) p3) pos) (tRevL K te) := by subst q; exact pe_revL he
theorem ka_star (q : X.K = K) (he : PE X e te) (hr : PA X es t) (hs : starEach (.Starred e p :: es) X.env = (true, eval e X.env) :: starEach es X.env := by rfl) : PA X (.Starred e p :: es) (StX.tStar K te t) := by subst q; exact StX.pa_star he hr hs
theorem ke_or {a b : Expr} {tb : TE} {rest : List Expr} (q : X.K = K) (ha : PE X a te) (hb : PE X (.BoolOp .Or (b :: rest) pos) tb) : PE X (.BoolOp .Or (a :: b :: rest) pos) (tOrT K te tb) := by subst q; exact pe_orT ha hb
def rJoin (K : PySem.W.Frag) : V → List V → Hp → VK → Prop := fun x xs H Q => ∃ a p, ∃ ys : List Str, x = .str a ∧ xs = [.ref p] ∧ (SqL K H p (ys.map V.str) ∨ SqT K H p (ys.map V.str)) ∧ (ys.map (·.length)).sum + ys.length * a.length ≤ 16777216 ∧ Q (.str (Txt.join a ys)) H
theorem ke_join (q : X.K = K) (h : PE X e (tM1 (rJoin X.K) to te)) : PE X e (tM1 (rJoin K) to te) := by subst q; exact h
end
end Pk


set_option Elab.async false
set_option linter.all false
set_option maxRecDepth 100000
set_option maxHeartbeats 4000000
/-! PkF1: small defs. -/
namespace Pk
open PySem PySem.Spec PyProof.Rows L2 PkH
/-! ### how data are written -/
def eSS (p : Str × Str) : PyData := .tuple [.str p.1, .str p.2]
def eTS (xs : List Str) : PyData := .tuple (xs.map .str)
def eLine (l : List (Str × Str)) : PyData := .tuple (l.map eSS)
def eRow (r : List Str × Str) : PyData := .tuple [eTS r.1, .str r.2]
def eRows (rs : List (List Str × Str)) : PyData := .tuple (rs.map eRow)
section
variable {K : PySem.W.Frag} {B : Hp} {v : V}
theorem tt_map {α : Type} {f : α → PyData} {xs : List α} (h : (DD K (.tuple (xs.map f))).p v B) : (TuP K (xs.map fun x => DD K (f x))).p v B := by
  have q := dd_tt h
  rw [List.map_map] at q
  exact q
theorem ll_map {α : Type} {f : α → PyData} {xs : List α} (h : (DD K (.list (xs.map f))).p v B) : (LiP K (xs.map fun x => DD K (f x))).p v B := by
  have q := dd_ll h
  rw [List.map_map] at q
  exact q
theorem map_tt {α : Type} {f : α → PyData} {xs : List α} (h : (TuP K (xs.map fun x => DD K (f x))).p v B) : (DD K (.tuple (xs.map f))).p v B := by
  refine tt_dd ?_
  rw [List.map_map]
  exact h
theorem map_ll {α : Type} {f : α → PyData} {xs : List α} (h : (LiP K (xs.map fun x => DD K (f x))).p v B) : (DD K (.list (xs.map f))).p v B := by
  refine ll_dd ?_
  rw [List.map_map]
  exact h
theorem tt_strs {xs : List Str} (h : (DD K (eTS xs)).p v B) : (TuP K (xs.map (dS K))).p v B := tt_map h
theorem tt_line {l : List (Str × Str)} (h : (DD K (eLine l)).p v B) : (TuP K (l.map fun p => DD K (eSS p))).p v B := tt_map h
theorem tt_rows {l : List (List Str × Str)} (h : (DD K (eRows l)).p v B) : (TuP K (l.map fun p => DD K (eRow p))).p v B := tt_map h
theorem two_ss {p : Str × Str} (h : (DD K (eSS p)).p v B) : ∃ a v1 v2, v = .ref a ∧ SqT K B a [v1, v2] ∧ (dS K p.1).p v1 B ∧ (dS K p.2).p v2 B := two_of (dd_tt h)
theorem two_row {p : List Str × Str} (h : (DD K (eRow p)).p v B) : ∃ a v1 v2, v = .ref a ∧ SqT K B a [v1, v2] ∧ (DD K (eTS p.1)).p v1 B ∧ (dS K p.2).p v2 B := two_of (dd_tt h)
end
/-! ### the kind of the outermost step -/
def outer (l : List (Str × Str)) (lot : List Str) : Str := ((l.filter fun p => decide (p.2 ∈ lot)).map (·.1)).getLastD "sum"
theorem last_at {α β : Type} (f : α → β) {xs : List α} {d : α} (h : xs ≠ []) : atI (xs.map f) (-1) = some (f (xs.getLastD d)) := by
  obtain ⟨ys, z, rfl⟩ : ∃ ys z, xs = ys ++ [z] := ⟨xs.dropLast, xs.getLast h, (List.dropLast_concat_getLast h).symm⟩
  rw [List.map_append, List.map_cons, List.map_nil, atI_last]
  simp
def GOuter (K : PySem.W.Frag) : List Pr → Pr → Prop := fun Ps P => ∃ l lot, Ps = [DD K (eLine l), DD K (eTS lot)] ∧ (∃ p ∈ l, p.2 ∈ lot) ∧ l.length ≤ 90000 ∧ P = dS K (outer l lot)
section
variable {P : Program} {w : World} {K : PySem.W.Frag} {mg : Str → Option Value} {base : Heap}
theorem scOuter : FnScope ["_law_line_so", "_law_lot_so", "_law_kind_so", "_law_own"] ["_law_line_so", "_law_lot_so"] (defScope (top 62)) := ⟨rfl, rfl, rfl, by decide +kernel, rfl, by decide +kernel, by decide +kernel⟩
theorem calOuter (T : Txt K mg) : Cal P w K mg base 1 "_law_outer" ["_law_line_so", "_law_lot_so"] (spF (GOuter K)) := by
  obtain ⟨fd, F⟩ := T.f_law_outer
  refine cal_of (k := 0) F T.g_law_outer scOuter (fun Ps P ⟨l, lot, e, _⟩ => by rw [e] <;> rfl) (fun _ _ _ _ _ _ us hl => match us, hl with | [_, _], _ => rfl) fun cdv A o s H E hr => ?_
  refine ⟨_, (pss_one (ps_ret (pe_ix (kx_list (K := K) rfl) (pe_lc (own := [("_law_kind_so", 2), ("_law_own", 3)]) (by rfl) scOuter.nd (kp_tup (K := K) rfl (pv 0)) (blkOk_by (by kernel_rfl)) (fun _ _ _ _ _ => (kg_tup (K := K) (n := 2) rfl rfl (pgs_cons (pg_name (i := 2) scOuter.nd rfl (by first | exact Or.inl rfl | exact Or.inr rfl)) (pgs_cons (pg_name (i := 3) scOuter.nd rfl (by first | exact Or.inl rfl | exact Or.inr rfl)) pgs_nil)))) (fun _ _ _ _ _ => (pts_one (pt_cmpR (ko_in (K := K) rfl) (pv 3) (pv 1) (by with_unfolding_all rfl)))) (fun _ _ _ _ _ => (pv 2))) (pe_un un_neg pe_int) (fun _ _ => rfl)))), ?_⟩
  · intro H B vs Ps P0 hs hp hG D q
    obtain ⟨l, lot, rfl, hne, hlen, rfl⟩ := hG
    cases hp with
    | cons h0 hp =>
    cases hp with
    | cons h1 hp =>
    cases hp
    refine s_ret (at0 hs) (ev_op (ev_lo (ev_lc (c := 0) (fun p => decide (p.2 ∈ lot)) (fun p => dS K p.1) (es_tup (ev_var rfl (tt_line h0))).s hlen ?turn)) (ev_un ev_int ru_neg) (rv_ixL ?last)) fun v B' H' a s hv => q _ v B' H' a hv
    case turn =>
      intro x v B1 k hx s1 hy
      obtain ⟨a, v1, v2, rfl, hT, e1, e2⟩ := two_ss hy
      exact ⟨_, tg_two hT, rfl, et_test (ev_op (ev_var rfl e2) (ev_var rfl (tt_strs (dd_up h1 s1))) rv_inT), fun _ => ev_var rfl e1⟩
    case last =>
      have hne2 : (l.filter fun p => decide (p.2 ∈ lot)) ≠ [] := by
        obtain ⟨p, hp, hq⟩ := hne
        exact List.ne_nil_of_mem (List.mem_filter.mpr ⟨hp, decide_eq_true hq⟩)
      unfold outer
      have e := last_at (fun x : Str => dS K x) (xs := (l.filter fun p => decide (p.2 ∈ lot)).map (·.1)) (d := "sum") (by
        intro z
        exact hne2 (List.map_eq_nil_iff.mp z))
      rw [List.map_map] at e
      exact e
end
end Pk


set_option Elab.async false
set_option linter.all false
set_option maxRecDepth 100000
set_option maxHeartbeats 4000000
/-! Pk5: sets of texts: set(xs), len of it, sorted of it. -/
namespace Pk
open PySem PySem.Spec PyProof.Rows L2

/-- at a stands the set of the texts l, each once; its table rises -/
def TxAt (P : Program) (w : World) (h : Heap) (a : Addr) (l : List Str) : Prop := ∃ es ep t, h.get? a = some (Froz.sObj "set" (es, ep, t)) ∧ Froz.TxOk P w (es, ep, t) l ∧ l.Nodup ∧ Ris t.place.toList ∧ (w.params.followText "set-order" = true ∨ t.led = true)
section
variable {P : Program} {w : World} {h h' : Heap} {a : Addr} {l : List Str}
theorem TxAt.at (R : TxAt P w h a l) (k : ∀ o, h.get? a = some o → h'.get? a = some o) : TxAt P w h' a l := by
  obtain ⟨es, ep, t, ho, r⟩ := R
  exact ⟨es, ep, t, k _ ho, r⟩
theorem tail_ris {ep : Nat} {es : Array (Int × Value)} {t : SetTable} {wd : Bool} (r : Ris t.place.toList) : Ris (Froz.tailTx ep es t wd).2.2.place.toList := by
  unfold Froz.tailTx
  split
  · exact relayAll_ris t es _
  · exact r
theorem tail_led {ep : Nat} {es : Array (Int × Value)} {t : SetTable} {wd : Bool} : (Froz.tailTx ep es t wd).2.2.led = t.led := by
  unfold Froz.tailTx
  split
  · exact relayAll_led t es _
  · rfl
theorem txAt_new (w : World) {h : Heap} {a : Addr} (ho : h.get? a = some { cls := .type "set", dict := none, data := .set #[] 0 (.fresh 0 0 (!w.params.followText "set-order")) }) : TxAt P w h a [] :=
  ⟨#[], 0, _, ho, Froz.TxOk.nil (by rfl), List.nodup_nil, List.Pairwise.nil, by
    cases e : w.params.followText "set-order"
    · exact .inr rfl
    · exact .inl rfl⟩
/-- the members, one more text taken in -/
def inTo (l : List Str) (k : Str) : List Str := if k ∈ l then l else k :: l
def gath (xs : List Str) : List Str := xs.foldl inTo []
theorem inTo_mem {l : List Str} {k x : Str} : x ∈ inTo l k ↔ x ∈ l ∨ x = k := by
  unfold inTo
  split
  · rename_i c
    exact ⟨.inl, fun z => z.elim id fun e => e ▸ c⟩
  · rw [List.mem_cons]
    exact Or.comm
theorem inTo_len {l : List Str} {k : Str} : (inTo l k).length ≤ l.length + 1 := by
  unfold inTo
  split
  · omega
  · exact Nat.le_refl _
theorem fold_mem : ∀ (xs l : List Str) (x : Str), x ∈ xs.foldl inTo l ↔ x ∈ l ∨ x ∈ xs
  | [], l, x => by simp
  | y :: xs, l, x => by
    rw [List.foldl_cons, fold_mem xs, inTo_mem, List.mem_cons, or_assoc]
theorem gath_mem (xs : List Str) (x : Str) : x ∈ gath xs ↔ x ∈ xs := by
  unfold gath
  rw [fold_mem]
  simp
end

section
variable {P : Program} {w : World} {A : Around} {E : Value → Shared → Prop} {s : Shared} {a : Addr} {l : List Str}
theorem tx_add {k : Str} {u : Tok} {Q : Bool → Shared → Prop} (R : TxAt P w s.heap a l) (room : l.length + 1 < scanBound) (hQ : ∀ b h', Heap.SameBut a s.heap h' → TxAt P w h' a (inTo l k) → Q b { s with heap := h' }) :
    wpAny (model P w) A (setAddHashed a (.str k u) (hashStr w k)) Q E s := by
  obtain ⟨es, ep, t, ho, F, nd, hr, hl⟩ := R
  by_cases hk : k ∈ l
  · have hy : (PySem.strKind P w).is k (.str k u) = true := Froz.is_str k u
    have hb : es.size < scanBound := by have z : es.size = l.length := F.sz; omega
    unfold setAddHashed setAddHashedIn
    refine wpAny_holding (wpAny_bind (wpAny_setState_of ho rfl F.fit ?_))
    dsimp only
    rw [byScan_of rfl hb F.el]
    simp only [↓reduceIte]
    unfold setAddByScan
    refine wpAny_bind (wpAny_bind (wpAny_rule (wpAny_bind (wpAny_setScan_of (knd := PySem.strKind P w) (k := k) hy ho rfl F.fit F.el ?_))))
    cases q : List.findIdx? (fun e => (PySem.strKind P w).is k e.2) es.toList with
    | none =>
      obtain ⟨e, he, z⟩ := (F.mem k).mp hk
      have c := List.findIdx?_eq_none_iff.mp q e he
      rw [z] at c
      cases c
    | some j =>
      dsimp only
      refine wpAny_pure (wpAny_pure (hQ _ _ (Heap.SameBut.refl a s.heap) ?_))
      unfold inTo
      rw [if_pos hk]
      exact ⟨es, ep, t, ho, F, nd, hr, hl⟩
  · refine Froz.add_x ho F hk room (hQ _ _ (Heap.SameBut.update s.heap a _) ?_)
    unfold inTo
    rw [if_neg hk]
    have hr1 : Ris (layNew t es (hashStr w k) (.str k u)).2.1.place.toList := layNew_ris t es (hashStr w k) (.str k u) hr
    have hl1 : (layNew t es (hashStr w k) (.str k u)).2.1.led = t.led := layNew_led t es (hashStr w k) (.str k u)
    refine ⟨_, _, _, Froz.get_upd _ ho rfl, Froz.add_ok u F, List.nodup_cons.mpr ⟨hk, nd⟩, ?_, ?_⟩
    · refine tail_ris ?_
      split
      · exact hr1
      · exact hr1
    · refine hl.imp id fun z => ?_
      refine (tail_led (ep := ep)).trans ?_
      split
      · exact hl1.trans z
      · exact hl1.trans z
/-- the loop of set.update over a walk of texts -/
theorem tx_loop {I : Addr} {fp wr : List Addr} {G : Array GenState → Array GenState → Prop} {n : Nat} {Pv : Nat → Value → Prop} {St : Nat → Shared → Prop} {R : Result → Shared → Prop}
    (W : WalksS P w A.in1 I fp wr G n Pv St) (S : Addr) (hSf : S ∉ fp) (xs : List Str) (hn : n = xs.length) (hb : xs.length + 1 < scanBound) (hv : ∀ i v, Pv i v → ∃ t, v = .str (xs.getD i Str.empty) t) :
    ∀ (k i : Nat) (s : Shared) (l : List Str), n - i = k → i ≤ n → St i s → l.length ≤ i → TxAt P w s.heap S l →
      (∀ s', Moved (S :: wr) G s s' → TxAt P w s'.heap S ((xs.drop i).foldl inTo l) → R (.ok (.ret .none)) s') → codeAny (model P w) A (.builtin "set.update.loop" ⟨[.ref S, .ref I], []⟩) R s := by
  have hSw : S ∉ wr := fun z => hSf (W.sub _ z)
  have more : ∀ b ∈ wr, b ∈ S :: wr := fun b z => List.mem_cons_of_mem _ z
  intro k
  induction k with
  | zero =>
    intro i s l hk hi hst hc hS hR
    refine codeAny_builtin PyProof.Rows.F.entry_set_update_loop ?_
    rw [Around.under_plainId PyProof.Rows.F.plain_set_update_loop _]
    refine wpAny_bind (W.done s _ _ (by rw [show n = i by omega]; exact hst) fun s' hm => ?_)
    refine wpAny_pure (hR s' (hm.mono more) ?_)
    rw [List.drop_of_length_le (by omega)]
    exact hS.at fun o e => hm.heap S o hSw e
  | succ k ih =>
    intro i s l hk hi hst hc hS hR
    have hlt : i < n := by omega
    refine codeAny_builtin PyProof.Rows.F.entry_set_update_loop ?_
    rw [Around.under_plainId PyProof.Rows.F.plain_set_update_loop _]
    refine wpAny_bind (W.item i s _ _ hlt hst fun v s' hP hst' hm => ?_)
    obtain ⟨t, rfl⟩ := hv i v hP
    have hS' : TxAt P w s'.heap S l := hS.at fun o e => hm.heap S o hSw e
    refine wpAny_bind (wpAny_holding ?_)
    unfold setAdd
    refine wpAny_holding (wpAny_bind ((PySem.strKind P w).pyHash (k := xs.getD i Str.empty) (Froz.is_str _ _) ?_))
    refine tx_add (s := { s' with toks := s'.toks + 1 }) hS' (by omega) fun b h' sb hS2 => ?_
    refine wpAny_pure ⟨plainId_quiet PyProof.Rows.F.plain_set_update_loop _, ih (i + 1) _ (inTo l (xs.getD i Str.empty)) (by omega) hlt (W.frame _ s' _ _ hst' (Nat.le_succ _) fun b hb o e => ?_) (Nat.le_trans inTo_len (by omega)) hS2 fun s'' hm2 hS3 => ?_⟩
    · rw [sb.2 b (fun z : b = S => hSf (by rw [← z]; exact hb))]
      exact e
    · refine hR s'' (Moved.trans W.gtrans ((hm.mono more).then_heap (Nat.le_succ _) fun b o hb e => ?_) hm2) ?_
      · rw [sb.2 b (fun z => hb (by rw [z]; exact List.mem_cons_self))]
        exact e
      · have e : xs.drop i = xs.getD i Str.empty :: xs.drop (i + 1) := by
          rw [List.drop_eq_getElem_cons (by omega), List.getD_eq_getElem?_getD, List.getElem?_eq_getElem (by omega)] <;> rfl
        rw [e]
        exact hS3
end

section
variable {P : Program} {w : World} {A : Around} {E : Value → Shared → Prop} {s : Shared}
/-- set(xs), xs a list of texts -/
theorem set_tx_list {l : Addr} {items : Array Value} (xs : List Str) {Q : Value → Shared → Prop} (hh : A.handled = none) (hl : s.heap.IsList l items) (hit : StrsAre items.toList xs) (hb : xs.length + 1 < scanBound)
    (h : ∀ (h' : Heap) (tk : Nat), TxAt P w h' s.heap.objs.size (gath xs) → (∀ b o, s.heap.get? b = some o → h'.get? b = some o) → Q (.ref s.heap.objs.size) { s with heap := h', toks := tk }) :
    wpAny (model P w) A (call (.type "set") [.ref l]) Q E s := by
  have hsz : items.size = xs.length := by rw [← StrsAre.len_eq hit, Array.length_toList]
  have mro := F.called_set.mro
  obtain ⟨c, tl, hmro⟩ := mro
  have hmade := F.called_set.made
  have hsub := F.called_set.sub
  refine wpAny_call (codeAny_of_tree ?_)
  refine wpAny_pure ⟨Code.quiet_builtin _ (by decide +kernel), codeAny_builtin F.entry_type_call ?_⟩
  rw [Around.under_plain (weight_type_call_type "set" [.ref l] []) rfl]
  have t1 := F.called_set.notType
  have t2 := F.called_set.canCreate
  have t3 := F.typeCall_set_1 (.ref l)
  repeat (any_goals (first | assumption | wp_step))
  refine codeAny_mono (code_set_led1 (.ref l) (E := E) (Q₁ := fun obj s₁ => obj = .ref s.heap.objs.size ∧ s₁ = { s with heap := s.heap.push { cls := .type "set", dict := none, data := .set #[] 0 (.fresh 0 0 (!w.params.followText "set-order")) } }) ⟨rfl, rfl⟩) fun r s₁ hr => ?_
  cases r with
  | error e => exact hr
  | ok fl =>
    cases fl with
    | ret obj =>
      obtain ⟨rfl, rfl⟩ := hr
      have hS : (s.heap.push { cls := .type "set", dict := none, data := .set #[] 0 (.fresh 0 0 (!w.params.followText "set-order")) }).get? s.heap.objs.size = some { cls := .type "set", dict := none, data := .set #[] 0 (.fresh 0 0 (!w.params.followText "set-order")) } := Heap.get?_push_size _ rfl
      have hT : Shared.TypeIs { s with heap := s.heap.push { cls := .type "set", dict := none, data := .set #[] 0 (.fresh 0 0 (!w.params.followText "set-order")) } } (.ref s.heap.objs.size) "set" := ⟨_, hS, rfl⟩
      have i1 := F.called_set.init.lookup
      have i2 := F.called_set.init.bind (.ref s.heap.objs.size)
      repeat (any_goals (first | assumption | wp_step))
      refine codeAny_mono (codeAny_call_builtin (R := wants (fun r s₂ => r = .none ∧ ∃ h' tk, s₂ = { s with heap := h', toks := tk } ∧ TxAt P w h' s.heap.objs.size (gath xs) ∧ (∀ b o, s.heap.get? b = some o → h'.get? b = some o)) E)
        F.called_set.init.plain F.entry_set_init (check_set_init_1 hT ?_)) fun r₂ s₂ hr₂ => ?_
      · obtain ⟨ol, hol, hcl, nl, hdl⟩ := hl
        obtain ⟨ocls, odict, odata, oslots⟩ := ol
        simp only at hcl hdl
        subst hcl; subst hdl
        have hl0 := Heap.lt_size hol
        have hol' : (s.heap.push { cls := .type "set", dict := none, data := .set #[] 0 (.fresh 0 0 (!w.params.followText "set-order")) }).get? l = some { cls := .type "list", dict := odict, data := .seq items nl, slots := oslots } := Heap.get?_push_of_some _ hol
        have d1 := F.sub_list_set
        have d2 := F.sub_list_frozenset
        have d3 : (Value.type "list" == Value.type "dict") = false := by decide
        have hl1 : (s.heap.push { cls := .type "set", dict := none, data := .set #[] 0 (.fresh 0 0 (!w.params.followText "set-order")) }).IsList l items := ⟨_, hol', rfl, nl, rfl⟩
        unfold Builtin.«set.__init__» noKeywords Builtin.Frozenset.updateFrom
        generalize hPI : pyIter = PI
        wp_walk
        subst hPI
        refine wpAny_pyIter_list hl1 ?_
        refine wpAny_bind (wpAny_runValue ?_)
        have hh3 : A.in1.in1.in1.handled = none := by simp [hh]
        have z1 : (s.heap.push { cls := .type "set", dict := none, data := .set #[] 0 (.fresh 0 0 (!w.params.followText "set-order")) }).objs.size = s.heap.objs.size + 1 := Heap.size_push ..
        have hne : l ≠ (s.heap.push { cls := .type "set", dict := none, data := .set #[] 0 (.fresh 0 0 (!w.params.followText "set-order")) }).objs.size := by rw [z1]; exact Nat.ne_of_lt (Nat.lt_succ_of_lt hl0)
        have hSf : s.heap.objs.size ∉ [(s.heap.push { cls := .type "set", dict := none, data := .set #[] 0 (.fresh 0 0 (!w.params.followText "set-order")) }).objs.size, l] := by
          rw [z1]
          simp only [List.mem_cons, List.mem_singleton, List.not_mem_nil, or_false, not_or]
          exact ⟨Nat.ne_of_lt (Nat.lt_succ_self _), Nat.ne_of_gt hl0⟩
        have hval : ∀ (i : Nat) (v : Value), items[i]? = some v → ∃ t, v = .str (xs.getD i Str.empty) t := fun i v hv => SS.strs_at hit i v (by rw [Array.getElem?_toList]; exact hv)
        refine tx_loop ((Walks.list hh3 _ l hne items).toS) s.heap.objs.size hSf xs hsz hb hval (items.size - 0) 0 _ [] (by omega) (Nat.zero_le _) ⟨⟨_, Heap.get?_push_size _ rfl, rfl, rfl⟩, (hl1.push _)⟩ (Nat.le_refl _) ?_ ?_
        · refine txAt_new w ?_
          exact Heap.get?_push_of_some _ hS
        · intro s' hm hS'
          obtain ⟨h', g2, d', tk', os'⟩ := s'
          have eg : g2 = s.gens := hm.gens
          have ed : d' = s.drawn := hm.drawn
          have eo : os' = s.os := hm.os
          subst eg; subst ed; subst eo
          refine wpAny_pure (wpAny_pure ⟨rfl, h', tk', rfl, hS', fun b o e => ?_⟩)
          have hb0 : b < s.heap.objs.size := Heap.lt_size e
          refine hm.heap b o ?_ (Heap.get?_push_of_some _ (Heap.get?_push_of_some _ e))
          rw [z1]
          simp only [List.mem_cons, List.mem_singleton, List.not_mem_nil, or_false, not_or]
          exact ⟨Nat.ne_of_lt hb0, Nat.ne_of_lt (Nat.lt_succ_of_lt hb0)⟩
      · cases r₂ with
        | error e => exact hr₂
        | ok fl₂ =>
          cases fl₂ with
          | ret r =>
            obtain ⟨rfl, h', tk, rfl, hS', hk'⟩ := hr₂
            repeat (any_goals (first | assumption | wp_step))
            exact h _ _ hS' hk'
          | _ => exact hr₂.elim
    | _ => exact hr.elim
end

section
variable {P : Program} {w : World} {A : Around} {E : Value → Shared → Prop} {s : Shared}
/-- set(xs), xs a tuple of texts -/
theorem set_tx_tuple {l : Addr} {items : Array Value} (xs : List Str) {Q : Value → Shared → Prop} (hh : A.handled = none) (hl : s.heap.IsTuple l items) (hit : StrsAre items.toList xs) (hb : xs.length + 1 < scanBound)
    (h : ∀ (h' : Heap) (tk : Nat), TxAt P w h' s.heap.objs.size (gath xs) → (∀ b o, s.heap.get? b = some o → h'.get? b = some o) → Q (.ref s.heap.objs.size) { s with heap := h', toks := tk }) :
    wpAny (model P w) A (call (.type "set") [.ref l]) Q E s := by
  have hsz : items.size = xs.length := by rw [← StrsAre.len_eq hit, Array.length_toList]
  have mro := F.called_set.mro
  obtain ⟨c, tl, hmro⟩ := mro
  have hmade := F.called_set.made
  have hsub := F.called_set.sub
  refine wpAny_call (codeAny_of_tree ?_)
  refine wpAny_pure ⟨Code.quiet_builtin _ (by decide +kernel), codeAny_builtin F.entry_type_call ?_⟩
  rw [Around.under_plain (weight_type_call_type "set" [.ref l] []) rfl]
  have t1 := F.called_set.notType
  have t2 := F.called_set.canCreate
  have t3 := F.typeCall_set_1 (.ref l)
  repeat (any_goals (first | assumption | wp_step))
  refine codeAny_mono (code_set_led1 (.ref l) (E := E) (Q₁ := fun obj s₁ => obj = .ref s.heap.objs.size ∧ s₁ = { s with heap := s.heap.push { cls := .type "set", dict := none, data := .set #[] 0 (.fresh 0 0 (!w.params.followText "set-order")) } }) ⟨rfl, rfl⟩) fun r s₁ hr => ?_
  cases r with
  | error e => exact hr
  | ok fl =>
    cases fl with
    | ret obj =>
      obtain ⟨rfl, rfl⟩ := hr
      have hS : (s.heap.push { cls := .type "set", dict := none, data := .set #[] 0 (.fresh 0 0 (!w.params.followText "set-order")) }).get? s.heap.objs.size = some { cls := .type "set", dict := none, data := .set #[] 0 (.fresh 0 0 (!w.params.followText "set-order")) } := Heap.get?_push_size _ rfl
      have hT : Shared.TypeIs { s with heap := s.heap.push { cls := .type "set", dict := none, data := .set #[] 0 (.fresh 0 0 (!w.params.followText "set-order")) } } (.ref s.heap.objs.size) "set" := ⟨_, hS, rfl⟩
      have i1 := F.called_set.init.lookup
      have i2 := F.called_set.init.bind (.ref s.heap.objs.size)
      repeat (any_goals (first | assumption | wp_step))
      refine codeAny_mono (codeAny_call_builtin (R := wants (fun r s₂ => r = .none ∧ ∃ h' tk, s₂ = { s with heap := h', toks := tk } ∧ TxAt P w h' s.heap.objs.size (gath xs) ∧ (∀ b o, s.heap.get? b = some o → h'.get? b = some o)) E)
        F.called_set.init.plain F.entry_set_init (check_set_init_1 hT ?_)) fun r₂ s₂ hr₂ => ?_
      · obtain ⟨ol, hol, hcl, nl, hdl⟩ := hl
        obtain ⟨ocls, odict, odata, oslots⟩ := ol
        simp only at hcl hdl
        subst hcl; subst hdl
        have hl0 := Heap.lt_size hol
        have hol' : (s.heap.push { cls := .type "set", dict := none, data := .set #[] 0 (.fresh 0 0 (!w.params.followText "set-order")) }).get? l = some { cls := .type "tuple", dict := odict, data := .seq items nl, slots := oslots } := Heap.get?_push_of_some _ hol
        have d1 := F.sub_tuple_set
        have d2 := F.sub_tuple_frozenset
        have d3 : (Value.type "tuple" == Value.type "dict") = false := by decide
        have hl1 : (s.heap.push { cls := .type "set", dict := none, data := .set #[] 0 (.fresh 0 0 (!w.params.followText "set-order")) }).IsTuple l items := ⟨_, hol', rfl, nl, rfl⟩
        unfold Builtin.«set.__init__» noKeywords Builtin.Frozenset.updateFrom
        generalize hPI : pyIter = PI
        wp_walk
        subst hPI
        refine wpAny_pyIter_tuple hl1 ?_
        refine wpAny_bind (wpAny_runValue ?_)
        have hh3 : A.in1.in1.in1.handled = none := by simp [hh]
        have z1 : (s.heap.push { cls := .type "set", dict := none, data := .set #[] 0 (.fresh 0 0 (!w.params.followText "set-order")) }).objs.size = s.heap.objs.size + 1 := Heap.size_push ..
        have hne : l ≠ (s.heap.push { cls := .type "set", dict := none, data := .set #[] 0 (.fresh 0 0 (!w.params.followText "set-order")) }).objs.size := by rw [z1]; exact Nat.ne_of_lt (Nat.lt_succ_of_lt hl0)
        have hSf : s.heap.objs.size ∉ [(s.heap.push { cls := .type "set", dict := none, data := .set #[] 0 (.fresh 0 0 (!w.params.followText "set-order")) }).objs.size, l] := by
          rw [z1]
          simp only [List.mem_cons, List.mem_singleton, List.not_mem_nil, or_false, not_or]
          exact ⟨Nat.ne_of_lt (Nat.lt_succ_self _), Nat.ne_of_gt hl0⟩
        have hval : ∀ (i : Nat) (v : Value), items[i]? = some v → ∃ t, v = .str (xs.getD i Str.empty) t := fun i v hv => SS.strs_at hit i v (by rw [Array.getElem?_toList]; exact hv)
        refine tx_loop ((Walks.tuple hh3 _ l hne items).toS) s.heap.objs.size hSf xs hsz hb hval (items.size - 0) 0 _ [] (by omega) (Nat.zero_le _) ⟨⟨_, Heap.get?_push_size _ rfl, rfl, rfl⟩, (hl1.push _)⟩ (Nat.le_refl _) ?_ ?_
        · refine txAt_new w ?_
          exact Heap.get?_push_of_some _ hS
        · intro s' hm hS'
          obtain ⟨h', g2, d', tk', os'⟩ := s'
          have eg : g2 = s.gens := hm.gens
          have ed : d' = s.drawn := hm.drawn
          have eo : os' = s.os := hm.os
          subst eg; subst ed; subst eo
          refine wpAny_pure (wpAny_pure ⟨rfl, h', tk', rfl, hS', fun b o e => ?_⟩)
          have hb0 : b < s.heap.objs.size := Heap.lt_size e
          refine hm.heap b o ?_ (Heap.get?_push_of_some _ (Heap.get?_push_of_some _ e))
          rw [z1]
          simp only [List.mem_cons, List.mem_singleton, List.not_mem_nil, or_false, not_or]
          exact ⟨Nat.ne_of_lt hb0, Nat.ne_of_lt (Nat.lt_succ_of_lt hb0)⟩
      · cases r₂ with
        | error e => exact hr₂
        | ok fl₂ =>
          cases fl₂ with
          | ret r =>
            obtain ⟨rfl, h', tk, rfl, hS', hk'⟩ := hr₂
            repeat (any_goals (first | assumption | wp_step))
            exact h _ _ hS' hk'
          | _ => exact hr₂.elim
    | _ => exact hr.elim
end

section
variable {P : Program} {w : World} {A : Around} {E : Value → Shared → Prop} {s : Shared} {a : Addr} {l : List Str}
/-- a text of the set's members -/
theorem tx_strs {es : Array (Int × Value)} {ep : Nat} {t : SetTable} (F : Froz.TxOk P w (es, ep, t) l) : ∀ e ∈ es.toList, ∃ k u, e.2 = .str k u := fun e he => by
  obtain ⟨⟨k, h1, _⟩, _⟩ := F.el e he
  have h2 : Value.isStrOf k e.2 = true := h1
  cases q : e.2 with
  | str x u => exact ⟨x, u, rfl⟩
  | _ => rw [q] at h2; cases h2
theorem perm_of_sub {α : Type} [DecidableEq α] : ∀ (l ys : List α), l.Nodup → (∀ x ∈ l, x ∈ ys) → ys.length ≤ l.length → ys.Perm l
  | [], ys, _, _, hl => by
    rw [List.length_eq_zero_iff.mp (Nat.le_zero.mp hl)]
  | x :: l, ys, nd, hm, hl => by
    obtain ⟨h1, h2⟩ := List.nodup_cons.mp nd
    have hx := hm x List.mem_cons_self
    have e := List.length_erase_of_mem hx
    have p := List.length_pos_of_mem hx
    rw [List.length_cons] at hl
    refine (List.perm_cons_erase hx).trans ((perm_of_sub l (ys.erase x) h2 (fun y hy => ?_) (by omega)).cons x)
    have hne : y ≠ x := fun z => h1 (z ▸ hy)
    exact (List.mem_erase_of_ne hne).2 (hm y (List.mem_cons_of_mem _ hy))
theorem nodup_of_mem (ys l : List Str) (nd : l.Nodup) (hm : ∀ x, x ∈ l ↔ x ∈ ys) (hl : ys.length = l.length) : ys.Perm l := perm_of_sub l ys nd (fun x hx => (hm x).mp hx) (by omega)
theorem tx_perm {es : Array (Int × Value)} {ep : Nat} {t : SetTable} (F : Froz.TxOk P w (es, ep, t) l) (nd : l.Nodup) : ((es.toList.map (·.2)).map strOf).Perm l := by
  refine nodup_of_mem _ l nd (fun x => (F.mem x).trans ?_) (by rw [List.length_map, List.length_map, Array.length_toList]; exact F.sz)
  rw [List.map_map, List.mem_map]
  constructor
  · rintro ⟨e, he, q⟩
    obtain ⟨k, u, h1⟩ := tx_strs F e he
    refine ⟨e, he, ?_⟩
    have h2 : Value.isStrOf x e.2 = true := q
    show strOf e.2 = x
    rw [h1] at h2 ⊢
    exact eq_of_beq h2
  · rintro ⟨e, he, q⟩
    obtain ⟨k, u, h1⟩ := tx_strs F e he
    refine ⟨e, he, ?_⟩
    have h2 : strOf e.2 = x := q
    rw [h1] at h2 ⊢
    have h3 : k = x := h2
    rw [← h3]
    exact Froz.is_str k u
theorem tx_sorted {Q : Value → Shared → Prop} (R : TxAt P w s.heap a l) (hh : A.handled = none) (h64 : l.length < 64)
    (hQ : ∀ s' p (out : Array Value) (c : Nat) (ys : List Str), (∀ b o, s.heap.get? b = some o → s'.heap.get? b = some o) → s'.gens = s.gens → s'.os = s.os → s.heap.objs.size ≤ p →
      s'.heap.get? p = some (seqObj "list" out c) → StrsAre out.toList ys → ys.Perm l → sortedS ys = true → Q (.ref p) s') : wpAny (model P w) A (call (.builtin "sorted") [.ref a]) Q E s := by
  obtain ⟨es, ep, t, ho, F, nd, hr, hl⟩ := R
  have z : es.size = l.length := F.sz
  refine Calls.call_function_entry kind_sorted plain_sorted entry_sorted (args_sorted1 _) ?_
  unfold Builtin.«sorted»
  refine wpAny_bind (m := checkCount "sorted" 1 1 _) (wpAny_pure ?_)
  refine wpAny_bind (collect_set (A := A.in1) hh ⟨_, ho, rfl, rfl⟩ F.fit (show es.size < scanBound by unfold scanBound; omega) hr hl fun s1 vs k1 hz g1 o1 pm => ?_)
  have hvl : vs.length < 64 := by
    rw [pm.length_eq, List.length_map, Array.length_toList]
    exact Nat.lt_of_le_of_lt (Nat.le_of_eq z) h64
  have hI : StrsAre vs (vs.map strOf) := strsAre_map vs fun v hv => by
    obtain ⟨e, he, q⟩ := List.mem_map.mp (pm.mem_iff.mp hv)
    obtain ⟨k, u, h1⟩ := tx_strs F e he
    exact ⟨k, u, by rw [← q]; exact h1⟩
  refine wpAny_bind (wpAny_newList ?_ (by rw [sizeLine_eq]; omega))
  have hoL : (s1.heap.push (seqObj "list" vs.toArray 0)).get? s1.heap.objs.size = some (seqObj "list" vs.toArray 0) := Heap.get?_push_size _ rfl
  refine wpAny_bind (wpAny_holding (wpAny_call_entry slot_list_sort ⟨_, hoL, rfl⟩ entry_list_sort
    (list_sort_treeK strKind_oneLt hoL hI.keysOf (fun v₁ v₂ rest e => keyKind_strs (by rw [← e]; exact hI)) hvl fun st' hp hs => ⟨_, rfl, ?_⟩) (args_list_sort _)))
  obtain ⟨ys, h1, h2, h3⟩ := sorted_out_str hI hp hs
  obtain ⟨c, hc⟩ := sortedHeap_at (vs := vs) (out := (arrOf st').map (·.2)) hoL
  refine wpAny_pure ⟨_, rfl, hQ _ s1.heap.objs.size _ c ys (fun b u e => ?_) g1 o1 hz hc h1 (h2.trans ((pm.map strOf).trans (tx_perm F nd))) h3⟩
  have q := k1 b u e
  have hlt := Heap.lt_size q
  refine Eq.trans ?_ (Heap.get?_push_of_some (seqObj "list" vs.toArray 0) q)
  exact sortedHeap_old (Nat.ne_of_lt hlt) (by rw [size_push']; exact Nat.lt_succ_of_lt hlt)
end

/-! ### as rules -/
def TxO (P : Program) (w : World) (a : Addr) (l : List Str) : HO := .ext fun h => TxAt P w h a l
section
variable {X : Cx}
theorem txO_new {w : World} {P : Program} {H : Hp} {h : Heap} {a : Addr} {l : List Str} (R : TxAt P w h a l) : ObjOk P w H h a (TxO P w a l) := by
  have ⟨es, ep, t, ho, _⟩ := R
  exact ⟨R, ⟨_, ho⟩, fun h1 h2 p k => TxAt.at p k⟩
/-- set(xs): a list, a tuple of texts, a tuple of ints -/
def rSetOf (K : PySem.W.Frag) (P : Program) (w : World) : List V → Hp → VK → Prop := fun vs H Q => ∃ p, vs = [V.ref p] ∧
  ((∃ xs : List Str, (SqL K H p (xs.map V.str) ∨ SqT K H p (xs.map V.str)) ∧ xs.length ≤ 1000 ∧ ∀ a, H a = none → Q (.ref a) (upd H a (TxO P w a (gath xs)))) ∨
    ∃ ns : List Int, SqT K H p (ns.map V.int) ∧ ns.length ≤ 1000 ∧ ∀ a c, c ≤ ns.length → H a = none → Q (.ref a) (upd H a (SetO w a (fun j => decide (j ∈ ns)) c)))
theorem bound_1000 {n : Nat} (h : n ≤ 1000) : n + 1 < scanBound := by unfold scanBound; omega
theorem cr_setOf (hc : X.calm = true) : CallR X (.type "set") (rSetOf X.K X.prog X.w) := by
  intro pins s σ H vs us Q I r h
  obtain ⟨p, rfl, h⟩ := h
  rw [Vals.ref1 r]
  have hn : H s.heap.objs.size = none := I.hok.fresh (Nat.le_refl _)
  rcases h with ⟨xs, hs, hl, q⟩ | ⟨ns, hs, hl, q⟩
  · rcases hs with hs | hs
    · obtain ⟨its, rv, pl, hz⟩ := I.list hs
      exact set_tx_list xs (I.ok.hd hc) pl.isList (by simpa using rv.strs) (bound_1000 hl) fun h' tk R k => ⟨.ref s.heap.objs.size, _, I.laid (t' := tk) k (Nat.le_refl _) (txO_new R), rfl, q _ hn⟩
    · obtain ⟨its, rv, pl, hz⟩ := I.tuple hs
      exact set_tx_tuple xs (I.ok.hd hc) pl (by simpa using rv.strs) (bound_1000 hl) fun h' tk R k => ⟨.ref s.heap.objs.size, _, I.laid (t' := tk) k (Nat.le_refl _) (txO_new R), rfl, q _ hn⟩
  · obtain ⟨its, rv, pl, hz⟩ := I.tuple hs
    exact call_set_tupI ns (I.ok.hd hc) pl (by simpa using rv.ints) (bound_1000 hl) fun h' tk c R hc' k => ⟨.ref s.heap.objs.size, _, I.laid (t' := tk) k (Nat.le_refl _) (setO_new R), rfl, q _ c hc' hn⟩
/-- sorted(set) -/
def rSortSet (P : Program) (w : World) : List V → Hp → VK → Prop := fun vs H Q => (∃ a l, vs = [V.ref a] ∧ H a = some (TxO P w a l) ∧ l.length < 64 ∧
    ∀ ys p, List.Perm ys l → sortedS ys = true → H p = none → Q (.ref p) (upd H p (.lst (ys.map V.str)))) ∨ rSortedSet w vs H Q
theorem cr_sortSet (hc : X.calm = true) : CallR X (.builtin "sorted") (rSortSet X.prog X.w) := by
  intro pins s σ H vs us Q I r h
  rcases h with ⟨a, l, rfl, ha, h64, q⟩ | h
  · have R : TxAt X.prog X.w s.heap a l := (I.hok a _ ha).1
    rw [Vals.ref1 r]
    refine tx_sorted R (I.ok.hd hc) h64 fun s' p out c ys k g o hp hg hi pm hs => ?_
    have hlen : (ys.map V.str).length ≤ sizeLine := by rw [List.length_map, pm.length_eq, sizeLine_eq]; omega
    have hn : H p = none := I.hok.fresh hp
    have J : Inv X pins σ (upd H p (.lst (ys.map V.str))) { s with heap := s'.heap, gens := s'.gens, drawn := s'.drawn, toks := s'.toks } :=
      I.call (ch := []) (Un.laid k hp hn) (I.hok.laid k hp ⟨hlen, out.toList, c, vals_of_strs hi, hg⟩) (by rw [g]; exact I.bare) (fun _ z => nomatch z)
    have e : s' = { s with heap := s'.heap, gens := s'.gens, drawn := s'.drawn, toks := s'.toks } := by
      cases s'; cases s; cases o; rfl
    rw [e]
    exact ⟨.ref p, _, J, rfl, q ys p pm hs hn⟩
  · exact cr_sortedSet hc pins s σ H vs us Q I r h
/-- len(set), texts -/
def rLenSet (P : Program) (w : World) : List V → Hp → VK → Prop := fun vs H Q => ∃ a l, vs = [V.ref a] ∧ H a = some (TxO P w a l) ∧ l.length ≤ 1000 ∧ Q (.int l.length) H
theorem cr_lenSet : CallR X (.builtin "len") (rLenSet X.prog X.w) := by
  intro pins s σ H vs us Q I r h
  obtain ⟨a, l, rfl, ha, hl, q⟩ := h
  obtain ⟨es, ep, t, ho, F, nd, hr, hld⟩ : TxAt X.prog X.w s.heap a l := (I.hok a _ ha).1
  have z : es.size = l.length := F.sz
  rw [Vals.ref1 r]
  refine call_len_set ho ⟨rfl, rfl, rfl⟩ rfl F.fit (show (es.size : Int) < 2 ^ 63 by omega) ⟨.int l.length, H, I.tok _, ⟨_, by rw [z]⟩, q⟩
end
end Pk


set_option Elab.async false
set_option linter.all false
set_option maxRecDepth 100000
set_option maxHeartbeats 4000000
/-! Pk6: list(enumerate(x)), tuple(zip(x, y)): walks that hand out new tuples, all of them kept. -/
namespace PkG
open PySem PySem.W PyProof.Rows
section
variable {prog : Program} {w : World} {A : Around} {E : Value → Shared → Prop} {s : Shared}

/-! ### enumerate(v), v anything that is iterated -/
theorem enum_new1 {v : Value} {o : Obj} {H : Heap → Prop} (B : Begins v o H) :
    Meets (Builtin.«enumerate.__new__» ⟨[.type "enumerate", v], []⟩) (fun _ R s => H s.heap ∧
      R (.ok (.ret (.ref (s.heap.push o).objs.size))) { s with heap := (s.heap.push o).push { cls := .type "enumerate", data := .fields #[.none, .bool false, .ref s.heap.objs.size, rawInt 0, .none, .none] } }) :=
  .of_wp fun prog w A R s h => by
    obtain ⟨hp, g, d, tk, os⟩ := s
    obtain ⟨h1, h⟩ := h
    have hsub := sub_enumerate
    have go : ∀ {A' : Around} {E : Value → Shared → Prop} {Q : Value → Shared → Prop}, Q (.ref hp.objs.size) ⟨hp.push o, g, d, tk, os⟩ → wpAny (model prog w) A' (pyIter v) Q E ⟨hp, g, d, tk, os⟩ :=
      fun q => B.iter prog w _ _ ⟨hp, g, d, tk, os⟩ _ h1 q
    wp_walk using go
    refine wpAny_stack_any fun st => wpAny_pure ?_
    split
    · rename_i c _ _ _ _ _
      cases (c == Value.type "enumerate")
      · wp_walk using go
        exact ⟨_, rfl, h⟩
      · wp_walk using go
        exact ⟨_, rfl, h⟩
    · wp_walk using go
      exact ⟨_, rfl, h⟩
theorem enum_call1 {v : Value} {o : Obj} {H : Heap → Prop} {Q : Value → Shared → Prop} (B : Begins v o H) (h1 : H s.heap)
    (h : ∀ h', IsEnum h' (s.heap.objs.size + 1) s.heap.objs.size 0 .none → h'.get? s.heap.objs.size = some o → h'.objs.size = s.heap.objs.size + 2 →
      (∀ b o, s.heap.get? b = some o → h'.get? b = some o) → Q (.ref (s.heap.objs.size + 1)) { s with heap := h' }) : wpAny (model prog w) A (call (.type "enumerate") [v]) Q E s := by
  refine callType_new F.called_enumerate (by decide) (F.typeCall_enumerate_1 _) (F.newCall_enumerate_1 _) (fun obj => F.args_object_init_2 obj _) F.entry_enumerate_new (enum_new1 B) ⟨h1, ?_⟩
  have hz : (s.heap.push o).objs.size = s.heap.objs.size + 1 := Heap.size_push ..
  show _ ∧ _
  rw [hz]
  have he : IsEnum ((s.heap.push o).push { cls := .type "enumerate", data := .fields #[.none, .bool false, .ref s.heap.objs.size, rawInt 0, .none, .none] }) (s.heap.objs.size + 1) s.heap.objs.size 0 .none := by
    have q := Heap.get?_push_size (s.heap.push o) (o := { cls := .type "enumerate", data := .fields #[.none, .bool false, .ref s.heap.objs.size, rawInt 0, .none, .none] }) rfl
    rw [hz] at q
    exact q
  exact ⟨⟨_, he, rfl⟩, h _ he (Heap.get?_push_of_some _ (Heap.get?_push_size _ B.free)) (by rw [Heap.size_push, hz]) fun b o x => Heap.get?_push_of_some _ (Heap.get?_push_of_some _ x)⟩

/-! ### the next pair, the last one being kept -/
theorem enum_held {e it T : Addr} {fp : List Addr} {n i : Nat} {P : Nat → Value → Prop} {St : Nat → Heap → Prop} {old : Value} {f : Bool} {oT : Obj} {Q : Value → Shared → Prop}
    (D : Draws prog w A it fp n P St) (he : IsEnumHeld s.heap e it i old T f) (hT : s.heap.get? T = some oT) (hTe : T ≠ e) (hTi : T ≠ it) (hst : St i s.heap) (hlt : i < n) (hne : e ≠ it) (hef : e ∉ fp)
    (hQ : ∀ x h' tk, P i x → IsEnumHeld h' e it ((i : Int) + 1) old T true → St (i + 1) h' → h'.get? s.heap.objs.size = some { cls := .type "tuple", data := .seq #[.int i tk, x] } → h'.objs.size = s.heap.objs.size + 1 →
      (∀ b o, b ≠ e → b ≠ it → s.heap.get? b = some o → h'.get? b = some o) → Q (.ref s.heap.objs.size) { s with heap := h', toks := tk + 1 }) :
    wpAny (model prog w) A (Builtin.«enumerate.__next__» ⟨[.ref e], []⟩) (fun fin s' => ∃ v, fin = .done (.ret v) ∧ Q v s') E s := by
  obtain ⟨hp, g, d, tk₀, os⟩ := s
  show wpAny _ A (field (.ref e) 2 >>= _) _ _ _
  refine wpAny_bind (wpAny_field he rfl (x := .ref it) rfl ?_)
  refine wpAny_bind (D.item i _ _ _ hlt hst fun x h₁ tk hPx hit₁ hs₁ => ?_)
  replace hs₁ : Heap.SameBut it hp h₁ := hs₁
  have he₁ : IsEnumHeld h₁ e it i old T f := (hs₁.2 e hne).trans he
  show wpAny _ A (field (.ref e) 3 >>= _) _ _ ⟨h₁, g, d, tk, os⟩
  refine wpAny_bind (wpAny_field (s := ⟨h₁, g, d, tk, os⟩) he₁ rfl (x := rawInt i) rfl ?_)
  show wpAny _ A (field (.ref e) 4 >>= _) _ _ ⟨h₁, g, d, tk, os⟩
  refine wpAny_bind (wpAny_field (s := ⟨h₁, g, d, tk, os⟩) he₁ rfl (x := .none) rfl ?_)
  show wpAny _ _ (mkInt i >>= _) _ _ ⟨h₁, g, d, tk, os⟩
  refine wpAny_bind (wpAny_mkInt ?_)
  show wpAny _ _ (setField (.ref e) 3 (rawInt ((i : Int) + 1)) >>= _) _ _ ⟨h₁, g, d, tk + 1, os⟩
  refine wpAny_bind (wpAny_setField_rec (s := ⟨h₁, g, d, tk + 1, os⟩) he₁ (by simp) fun h₂ he₂ hs₂ => ?_)
  replace hs₂ : Heap.SameBut e h₁ h₂ := hs₂
  replace he₂ : IsEnumHeld h₂ e it ((i : Int) + 1) old T f := he₂
  show wpAny _ _ (setField (.ref e) 4 .none >>= _) _ _ ⟨h₂, g, d, tk + 1, os⟩
  refine wpAny_bind (wpAny_setField_rec (s := ⟨h₂, g, d, tk + 1, os⟩) he₂ (by simp) fun h₃ he₃ hs₃ => ?_)
  replace hs₃ : Heap.SameBut e h₂ h₃ := hs₃
  replace he₃ : IsEnumHeld h₃ e it ((i : Int) + 1) old T f := he₃
  show wpAny _ _ (newTuple [.int i tk, x] >>= _) _ _ ⟨h₃, g, d, tk + 1, os⟩
  refine wpAny_bind (wpAny_newTuple ?_)
  have he₄ : IsEnumHeld (h₃.push { cls := .type "tuple", data := .seq #[.int i tk, x] }) e it ((i : Int) + 1) old T f := Heap.get?_push_of_some _ he₃
  generalize hh₄ : h₃.push { cls := .type "tuple", data := .seq #[.int i tk, x] } = h₄ at he₄
  have hsz : h₃.objs.size = hp.objs.size := by rw [hs₃.1, hs₂.1, hs₁.1]
  have hel : e < hp.objs.size := Heap.lt_size he
  have ht₄ : h₄.get? hp.objs.size = some { cls := .type "tuple", data := .seq #[.int i tk, x] } := by
    rw [← hh₄, ← hsz]
    exact Heap.get?_push_size _ rfl
  have hz₄ : h₄.objs.size = hp.objs.size + 1 := by rw [← hh₄, Heap.size_push, hsz]
  have hk₄ : ∀ b o, b ≠ e → b ≠ it → hp.get? b = some o → h₄.get? b = some o := fun b o hbe hbi hb => by
    rw [← hh₄]
    exact Heap.get?_push_of_some _ (hs₃.extBut b o hbe (hs₂.extBut b o hbe (hs₁.extBut b o hbi hb)))
  have hit₄ : St (i + 1) h₄ := D.frame _ _ _ hit₁ fun b hb o y => by
    have hbe : b ≠ e := fun q => hef (q ▸ hb)
    rw [← hh₄]
    exact Heap.get?_push_of_some _ (hs₃.extBut b o hbe (hs₂.extBut b o hbe y))
  show wpAny _ _ (Builtin.SmallTypes.ownedTupleIsFree (.ref e) >>= _) _ _ ⟨h₄, g, d, tk + 1, os⟩
  rw [hsz]
  clear hh₄ he₃ hs₃ he₂ hs₂ he₁ hs₁ hit₁ hsz h₃ h₂ h₁
  refine wpAny_bind (wpAny_tupleHeld_enum (s := ⟨h₄, g, d, tk + 1, os⟩) he₄ (hk₄ T oT hTe hTi hT) fun h₅ he₅ hs₅ => ?_)
  replace hs₅ : Heap.SameBut e h₄ h₅ := hs₅
  simp only [Bool.false_eq_true, if_false]
  refine wpAny_pure ⟨_, rfl, hQ x h₅ tk hPx he₅ (D.frame _ _ _ hit₄ fun b hb o y => hs₅.extBut b o (fun q => hef (q ▸ hb)) y) (hs₅.extBut _ _ (Nat.ne_of_gt hel) ht₄) (hs₅.1.trans hz₄) fun b o hbe hbi hb => hs₅.extBut b o hbe (hk₄ b o hbe hbi hb)⟩
theorem enum_next {e it T : Addr} {fp : List Addr} {n i : Nat} {P : Nat → Value → Prop} {St : Nat → Heap → Prop} {old : Value} {f : Bool} {oT : Obj} {Q : Option Value → Shared → Prop}
    (D : Draws prog w A.in1 it fp n P St) (he : IsEnumHeld s.heap e it i old T f) (hT : s.heap.get? T = some oT) (hTe : T ≠ e) (hTi : T ≠ it) (hst : St i s.heap) (hlt : i < n) (hne : e ≠ it) (hef : e ∉ fp)
    (hQ : ∀ x h' tk, P i x → IsEnumHeld h' e it ((i : Int) + 1) old T true → St (i + 1) h' → h'.get? s.heap.objs.size = some { cls := .type "tuple", data := .seq #[.int i tk, x] } → h'.objs.size = s.heap.objs.size + 1 →
      (∀ b o, b ≠ e → b ≠ it → s.heap.get? b = some o → h'.get? b = some o) → Q (some (.ref s.heap.objs.size)) { s with heap := h', toks := tk + 1 }) : wpAny (model prog w) A (pyNext (.ref e)) Q E s := by
  have hTy : s.TypeIs (.ref e) "enumerate" := ⟨_, he, rfl⟩
  unfold pyNext
  exact wpAny_bind (wpAny_attempt (wpAny_callSpecial?_slot (name := Str.ofString "__next__") hTy F.slot_enumerate_next (wpAny_call_entry F.slot_enumerate_next hTy F.entry_enumerate_next
    (enum_held D he hT hTe hTi hst hlt hne hef fun x h' tk a b c d k q => wpAny_pure (hQ x h' tk a b c d k q)) (F.args_enumerate_next_1 _))))
theorem enum_end {e it : Addr} {fp : List Addr} {n : Nat} {P : Nat → Value → Prop} {St : Nat → Heap → Prop} {oe : Obj} {fs : Array Value} {Q : Option Value → Shared → Prop}
    (D : Draws prog w A.in1 it fp n P St) (he : s.heap.get? e = some oe) (hc : oe.cls = .type "enumerate") (hd : oe.data = .fields fs) (hf : fs[2]? = some (.ref it)) (hst : St n s.heap)
    (hQ : ∀ h', Heap.ExtBut it s.heap h' → Q none { s with heap := h' }) : wpAny (model prog w) A (pyNext (.ref e)) Q E s := by
  have hTy : s.TypeIs (.ref e) "enumerate" := ⟨_, he, hc⟩
  unfold pyNext
  refine wpAny_bind (wpAny_attempt (wpAny_callSpecial?_slot (name := Str.ofString "__next__") hTy F.slot_enumerate_next (wpAny_call_entry F.slot_enumerate_next hTy F.entry_enumerate_next ?_ (F.args_enumerate_next_1 _))))
  show wpAny _ A.in1 (field (.ref e) 2 >>= _) _ _ _
  refine wpAny_bind (wpAny_field he hd (x := .ref it) hf ?_)
  refine wpAny_bind (D.done _ _ _ hst fun h' x he' hx' => ?_)
  obtain ⟨o, ho, hc'⟩ := hx'
  exact wpAny_bind (wpAny_isInstance (T := "StopIteration") (b := true) ⟨o, ho, hc'⟩ isSubtype_stop (wpAny_pure (hQ _ he')))

section
variable {z TI TO T i1 i2 : Addr} {fp1 fp2 : List Addr} {n1 n2 i : Nat} {P1 P2 : Nat → Value → Prop} {St1 St2 : Nat → Heap → Prop} {f : Bool} {oT : Obj}
theorem zip_held {Q : Value → Shared → Prop} (S : ZipSep2 z TI TO i1 i2 fp1 fp2) (D1 : Draws prog w A i1 fp1 n1 P1 St1) (D2 : Draws prog w A i2 fp2 n2 P2 St2)
    (hz : IsZipHeld s.heap z TI TO T f) (hT : s.heap.get? T = some oT) (hTI : IsTupOf2 s.heap TI (.ref i1) (.ref i2)) (st1 : St1 i s.heap) (st2 : St2 i s.heap) (hlt1 : i < n1) (hlt2 : i < n2)
    (hQ : ∀ x1 x2 h' tk, P1 i x1 → P2 i x2 → IsZipHeld h' z TI TO T true → St1 (i + 1) h' → St2 (i + 1) h' → IsTupOf2 h' s.heap.objs.size x1 x2 → h'.objs.size = s.heap.objs.size + 1 →
      (∀ c o, c ≠ z → c ≠ i1 → c ≠ i2 → s.heap.get? c = some o → h'.get? c = some o) → Q (.ref s.heap.objs.size) { s with heap := h', toks := tk }) :
    wpAny (model prog w) A (Builtin.«zip.__next__» ⟨[.ref z], []⟩) (fun fin s' => ∃ v, fin = .done (.ret v) ∧ Q v s') E s := by
  obtain ⟨hp, g, d, tk0, os⟩ := s
  show wpAny _ _ (field (.ref z) 2 >>= fun _ => _) _ _ _
  refine wpAny_bind (wpAny_field hz rfl (x := .bool false) rfl ?_)
  show wpAny _ _ (field (.ref z) 3 >>= fun _ => _) _ _ _
  refine wpAny_bind (wpAny_field hz rfl (x := .ref TI) rfl ?_)
  refine wpAny_bind (wpAny_seqItems hTI rfl ?_)
  show wpAny _ _ (Builtin.SmallTypes.ownedTupleIsFree (.ref z) >>= fun _ => _) _ _ _
  refine wpAny_bind (wpAny_tupleHeld_zip hz hT fun h₁ hz₁ hs₁ => ?_)
  replace hs₁ : Heap.SameBut z hp h₁ := hs₁
  simp only [Bool.false_eq_true, if_false]
  refine wpAny_bind ?_
  rw [← Array.forIn_toList]
  simp only [List.forIn_cons, List.forIn_nil]
  refine wpAny_bind (wpAny_bind (wpAny_holding ?_))
  show wpAny _ _ (Builtin.SmallTypes.nextOf (.ref i1) >>= _) _ _ ⟨h₁, g, d, tk0, os⟩
  refine wpAny_bind (D1.item i _ _ _ hlt1 (D1.over st1 hs₁ S.zf1) fun x1 h₂ tk1 hx1 sn1 hs₂ => wpAny_pure (wpAny_pure ?_))
  replace hs₂ : Heap.SameBut i1 h₁ h₂ := hs₂
  refine wpAny_bind (wpAny_bind (wpAny_holding ?_))
  show wpAny _ _ (Builtin.SmallTypes.nextOf (.ref i2) >>= _) _ _ ⟨h₂, g, d, tk1, os⟩
  refine wpAny_bind (D2.item i _ _ _ hlt2 (D2.over (D2.over st2 hs₁ S.zf2) hs₂ S.sep1_2) fun x2 h₃ tk2 hx2 sn2 hs₃ => wpAny_pure (wpAny_pure (wpAny_pure ?_)))
  replace hs₃ : Heap.SameBut i2 h₂ h₃ := hs₃
  show wpAny _ _ (newTuple [x1, x2] >>= _) _ _ ⟨h₃, g, d, tk2, os⟩
  refine wpAny_bind (wpAny_newTuple ?_)
  have hsz : h₃.objs.size = hp.objs.size := by rw [hs₃.1, hs₂.1, hs₁.1]
  have hz₃ : IsZipHeld h₃ z TI TO T true := hs₃.extBut _ _ S.zi2 (hs₂.extBut _ _ S.zi1 hz₁)
  have hk : ∀ c o, c ≠ z → c ≠ i1 → c ≠ i2 → hp.get? c = some o → h₃.get? c = some o := fun c o c1 c2 c3 e => hs₃.extBut _ _ c3 (hs₂.extBut _ _ c2 (hs₁.extBut _ _ c1 e))
  have j1 : St1 (i + 1) h₃ := D1.over sn1 hs₃ S.sep2_1
  refine wpAny_pure ⟨_, rfl, ?_⟩
  show Q (.ref h₃.objs.size) _
  have up : ∀ c o, h₃.get? c = some o → (h₃.push { cls := .type "tuple", data := .seq #[x1, x2] }).get? c = some o := fun c o e => Heap.get?_push_of_some _ e
  have hp2 : IsTupOf2 (h₃.push { cls := .type "tuple", data := .seq #[x1, x2] }) h₃.objs.size x1 x2 := Heap.get?_push_size _ rfl
  have hz4 : (h₃.push { cls := .type "tuple", data := .seq #[x1, x2] }).objs.size = h₃.objs.size + 1 := Heap.size_push ..
  rw [hsz] at hp2 hz4 ⊢
  exact hQ x1 x2 _ tk2 hx1 hx2 (up _ _ hz₃) (D1.frame _ _ _ j1 fun b _ o e => up b o e) (D2.frame _ _ _ sn2 fun b _ o e => up b o e) hp2 hz4 fun c o c1 c2 c3 e => up c o (hk c o c1 c2 c3 e)
theorem zip_next {Q : Option Value → Shared → Prop} (S : ZipSep2 z TI TO i1 i2 fp1 fp2) (D1 : Draws prog w A.in1 i1 fp1 n1 P1 St1) (D2 : Draws prog w A.in1 i2 fp2 n2 P2 St2)
    (hz : IsZipHeld s.heap z TI TO T f) (hT : s.heap.get? T = some oT) (hTI : IsTupOf2 s.heap TI (.ref i1) (.ref i2)) (st1 : St1 i s.heap) (st2 : St2 i s.heap) (hlt1 : i < n1) (hlt2 : i < n2)
    (hQ : ∀ x1 x2 h' tk, P1 i x1 → P2 i x2 → IsZipHeld h' z TI TO T true → St1 (i + 1) h' → St2 (i + 1) h' → IsTupOf2 h' s.heap.objs.size x1 x2 → h'.objs.size = s.heap.objs.size + 1 →
      (∀ c o, c ≠ z → c ≠ i1 → c ≠ i2 → s.heap.get? c = some o → h'.get? c = some o) → Q (some (.ref s.heap.objs.size)) { s with heap := h', toks := tk }) : wpAny (model prog w) A (pyNext (.ref z)) Q E s := by
  have hTy : s.TypeIs (.ref z) "zip" := ⟨_, hz, rfl⟩
  unfold pyNext
  exact wpAny_bind (wpAny_attempt (wpAny_callSpecial?_slot (name := Str.ofString "__next__") hTy F.slot_zip_next (wpAny_call_entry F.slot_zip_next hTy F.entry_zip_next
    (zip_held S D1 D2 hz hT hTI st1 st2 hlt1 hlt2 fun x1 x2 h' tk a b c d k q r z => wpAny_pure (hQ x1 x2 h' tk a b c d k q r z)) (F.args_zip_next_1 _))))
theorem zip_end {Q : Option Value → Shared → Prop} (S : ZipSep2 z TI TO i1 i2 fp1 fp2) (D1 : Draws prog w A.in1 i1 fp1 n1 P1 St1) (D2 : Draws prog w A.in1 i2 fp2 n2 P2 St2)
    (hz : IsZipHeld s.heap z TI TO T f) (hT : s.heap.get? T = some oT) (hTI : IsTupOf2 s.heap TI (.ref i1) (.ref i2)) (st1 : St1 i s.heap) (st2 : St2 i s.heap) (hend : i = n1 ∨ (i < n1 ∧ i = n2))
    (hQ : ∀ h' tk, (∀ c o, c ≠ z → c ≠ i1 → c ≠ i2 → s.heap.get? c = some o → h'.get? c = some o) → Q none { s with heap := h', toks := tk }) : wpAny (model prog w) A (pyNext (.ref z)) Q E s := by
  have hTy : s.TypeIs (.ref z) "zip" := ⟨_, hz, rfl⟩
  unfold pyNext
  refine wpAny_bind (wpAny_attempt (wpAny_callSpecial?_slot (name := Str.ofString "__next__") hTy F.slot_zip_next (wpAny_call_entry F.slot_zip_next hTy F.entry_zip_next ?_ (F.args_zip_next_1 _))))
  have fin : ∀ (h' : Heap) (tk : Nat) (e : Addr), (∀ c o, c ≠ z → c ≠ i1 → c ≠ i2 → s.heap.get? c = some o → h'.get? c = some o) → (∃ o, h'.get? e = some o ∧ o.cls = .type "StopIteration") → wpAny (model prog w) A (isInstance (.ref e) (.type "StopIteration") >>= fun b => if b = true then pure none else throw (.ref e)) Q E { s with heap := h', toks := tk } := fun h' tk e hk he => by
    obtain ⟨o, ho, hc⟩ := he
    exact wpAny_bind (wpAny_isInstance (T := "StopIteration") (b := true) ⟨o, ho, hc⟩ isSubtype_stop (wpAny_pure (hQ _ _ hk)))
  obtain ⟨hp, g, d, tk0, os⟩ := s
  show wpAny _ _ (field (.ref z) 2 >>= fun _ => _) _ _ _
  refine wpAny_bind (wpAny_field hz rfl (x := .bool false) rfl ?_)
  show wpAny _ _ (field (.ref z) 3 >>= fun _ => _) _ _ _
  refine wpAny_bind (wpAny_field hz rfl (x := .ref TI) rfl ?_)
  refine wpAny_bind (wpAny_seqItems hTI rfl ?_)
  show wpAny _ _ (Builtin.SmallTypes.ownedTupleIsFree (.ref z) >>= fun _ => _) _ _ _
  refine wpAny_bind (wpAny_tupleHeld_zip hz hT fun h₁ hz₁ hs₁ => ?_)
  replace hs₁ : Heap.SameBut z hp h₁ := hs₁
  simp only [Bool.false_eq_true, if_false]
  refine wpAny_bind ?_
  rw [← Array.forIn_toList]
  simp only [List.forIn_cons, List.forIn_nil]
  refine wpAny_bind (wpAny_bind (wpAny_holding ?_))
  show wpAny _ _ (Builtin.SmallTypes.nextOf (.ref i1) >>= _) _ _ ⟨h₁, g, d, tk0, os⟩
  rcases hend with h1 | ⟨h1, h2⟩
  · refine wpAny_bind (D1.done ⟨h₁, g, d, tk0, os⟩ _ _ (by rw [← h1]; exact D1.over st1 hs₁ S.zf1) fun q e hq he => ?_)
    exact fin q tk0 e (fun c o cz c1 c2 x => hq _ _ c1 (hs₁.extBut _ _ cz x)) he
  · refine wpAny_bind (D1.item i _ _ _ h1 (D1.over st1 hs₁ S.zf1) fun x1 h₂ tk1 hx1 sn1 hs₂ => wpAny_pure (wpAny_pure ?_))
    replace hs₂ : Heap.SameBut i1 h₁ h₂ := hs₂
    refine wpAny_bind (wpAny_bind (wpAny_holding ?_))
    show wpAny _ _ (Builtin.SmallTypes.nextOf (.ref i2) >>= _) _ _ ⟨h₂, g, d, tk1, os⟩
    refine wpAny_bind (D2.done ⟨h₂, g, d, tk1, os⟩ _ _ (by rw [← h2]; exact D2.over (D2.over st2 hs₁ S.zf2) hs₂ S.sep1_2) fun q e hq he => ?_)
    exact fin q tk1 e (fun c o cz c1 c2 x => hq _ _ c2 (hs₂.extBut _ _ c1 (hs₁.extBut _ _ cz x))) he
end
end
end PkG


set_option Elab.async false
set_option linter.all false
set_option maxRecDepth 100000
set_option maxHeartbeats 4000000
/-! Pk7: list(enumerate(x)), tuple(zip(x, y)) as rules. -/
namespace PkG
open PySem PySem.W PyProof.Rows
/-- a walk whose new things are kept in the list at D -/
structure WkG (prog : Program) (w : World) (I : Addr) (T : String) (wr : List Addr) (n : Nat) (Y : Nat → Value → Heap → Prop) (St : Nat → Heap → Prop) (D : Addr) : Prop where
  nD : D ∉ wr
  nI : D ≠ I
  ty : ∀ i h, St i h → ∃ o, h.get? I = some o ∧ o.cls = .type T
  frame : ∀ i h h', St i h → (∀ b o, b ≠ D → h.get? b = some o → h'.get? b = some o) → St i h'
  ylive : ∀ i v h, Y i v h → ∃ t, v = .ref t ∧ t < h.objs.size
  yframe : ∀ i v h h', Y i v h → (∀ b o, b ≠ D → b ∉ wr → h.get? b = some o → h'.get? b = some o) → Y i v h'
  self : ∀ (A : Around) (s : Shared) (Q : Value → Shared → Prop) (E : Value → Shared → Prop), St 0 s.heap → Q (.ref I) s → wpAny (model prog w) A (pyIter (.ref I)) Q E s
  item : ∀ (A : Around) i (s : Shared) (Q : Option Value → Shared → Prop) (E : Value → Shared → Prop), A.handled = none → i < n → St i s.heap → D < s.heap.objs.size →
    (∀ v h' tk, v = .ref s.heap.objs.size → Y i v h' → St (i + 1) h' → (∀ b o, b ∉ wr → s.heap.get? b = some o → h'.get? b = some o) → Q (some v) { s with heap := h', toks := tk }) → wpAny (model prog w) A (pyNext (.ref I)) Q E s
  done : ∀ (A : Around) (s : Shared) (Q : Option Value → Shared → Prop) (E : Value → Shared → Prop), A.handled = none → St n s.heap →
    (∀ h' tk, (∀ b o, b ∉ wr → s.heap.get? b = some o → h'.get? b = some o) → Q none { s with heap := h', toks := tk }) → wpAny (model prog w) A (pyNext (.ref I)) Q E s
def AllY (Y : Nat → Value → Heap → Prop) (acc : Array Value) (h : Heap) : Prop := (∀ j v, acc[j]? = some v → Y j v h) ∧ acc.toList.Nodup
section
variable {prog : Program} {w : World} {I D : Addr} {T : String} {wr : List Addr} {n : Nat} {Y : Nat → Value → Heap → Prop} {St : Nat → Heap → Prop} {A : Around} {E : Value → Shared → Prop} {R : Result → Shared → Prop}
abbrev lstAt (h : Heap) (D : Addr) (acc : Array Value) (c : Nat) : Prop := h.get? D = some { cls := .type "list", dict := none, data := .seq acc c, slots := #[] }
theorem upd_oth {h : Heap} {D b : Addr} {o : Obj} {f : Obj → Obj} (hb : b ≠ D) (e : h.get? b = some o) : (h.update D f).get? b = some o := (Heap.get?_update_other _ _ (Ne.symm hb)).trans e
theorem ext_loop (W : WkG prog w I T wr n Y St D) (hn : n ≤ sizeLine) (hA : A.handled = none) (res : Value) : ∀ (k i : Nat) (s : Shared) (acc : Array Value) (c : Nat), n - i = k → i ≤ n → St i s.heap → lstAt s.heap D acc c → acc.size = i → AllY Y acc s.heap →
    (∀ h' tk acc' c', (∀ b o, b ≠ D → b ∉ wr → s.heap.get? b = some o → h'.get? b = some o) → lstAt h' D acc' c' → acc'.size = n → AllY Y acc' h' → R (.ok (.ret res)) { s with heap := h', toks := tk }) →
    codeAny (model prog w) A (.builtin "list.extend.loop" ⟨[.ref D, .ref I, res], []⟩) R s := by
  intro k
  induction k with
  | zero =>
    intro i s acc c hk hi hst hD hz hY hR
    have hin : i = n := by omega
    subst hin
    refine codeAny_builtin F.entry_extend_loop ?_
    rw [Around.under_plainId F.plain_extend_loop _]
    refine wpAny_bind (W.done A.in1 s _ _ hA hst fun h' tk hk => ?_)
    exact wpAny_pure (hR h' tk acc c (fun b o _ hw e => hk b o hw e) (hk D _ W.nD hD) hz ⟨fun j v e => W.yframe j v _ _ (hY.1 j v e) fun b o _ hw q => hk b o hw q, hY.2⟩)
  | succ k ih =>
    intro i s acc c hk hi hst hD hz hY hR
    have hlt : i < n := by omega
    refine codeAny_builtin F.entry_extend_loop ?_
    rw [Around.under_plainId F.plain_extend_loop _]
    refine wpAny_bind (W.item A.in1 i s _ _ hA hlt hst (Heap.lt_size hD) fun v h' tk ev hv hst' hk' => ?_)
    have hD' : lstAt h' D acc c := hk' D _ W.nD hD
    show wpAny _ A.in1 (updateSeq D (·.push v) >>= fun _ => _) _ _ _
    refine wpAny_bind ?_
    have up : ∀ b o, b ≠ D → h'.get? b = some o → (h'.update D (Obj.mapSeq (·.push v))).get? b = some o := fun b o hb e => upd_oth hb e
    refine wpAny_updateSeq (s := { s with heap := h', toks := tk }) hD' rfl (wpAny_pure ⟨plainId_quiet F.plain_extend_loop _, ih (i + 1) _ (acc.push v) _ (by omega) hlt (W.frame (i + 1) h' _ hst' up) (Heap.get?_update_self _ hD' rfl) (by rw [Array.size_push, hz]) ⟨fun j u e => ?_, ?_⟩
      fun h'' tk' acc' c' hk'' hD'' hz'' hY'' => ?_⟩) (by omega) (by show (acc.push v).size ≤ sizeLine + 1; rw [Array.size_push]; omega)
    · by_cases hj : j < acc.size
      · rw [Array.getElem?_push_lt hj] at e
        have e' : acc[j]? = some u := by rw [Array.getElem?_eq_getElem hj]; exact e
        exact W.yframe j u _ _ (W.yframe j u _ _ (hY.1 j u e') fun b o _ hw q => hk' b o hw q) fun b o hb _ q => up b o hb q
      · by_cases hj2 : j = acc.size
        · rw [hj2, Array.getElem?_push_size] at e
          have e' : v = u := Option.some.inj e
          rw [← e', hj2, hz]
          exact W.yframe i v _ _ hv fun b o hb _ q => up b o hb q
        · rw [Array.getElem?_eq_none (by rw [Array.size_push]; omega)] at e
          cases e
    · rw [Array.toList_push, List.nodup_append]
      refine ⟨hY.2, List.pairwise_singleton _ _, fun x hx y hy z => ?_⟩
      rw [List.mem_singleton] at hy
      obtain ⟨j, hj, ej⟩ := List.mem_iff_getElem.mp hx
      obtain ⟨t, et, ht⟩ := W.ylive j x _ (hY.1 j x (by rw [← Array.getElem?_toList, List.getElem?_eq_getElem hj, ej]))
      rw [z, hy, ev] at et
      exact absurd ht (by rw [← Value.ref.inj et]; exact Nat.lt_irrefl _)
    · exact hR h'' tk' acc' c' (fun b o hb hw e => hk'' b o hb hw (up b o hb (hk' b o hw e))) hD'' hz'' hY''
/-- what is asked of the type T -/
structure NoLen (T : String) : Prop where
  len : typeLookup (.type T) "__len__" = pure none
  hint : typeLookup (.type T) "__length_hint__" = pure none
  nl : (Value.type T == Value.type "list") = false
  nt : (Value.type T == Value.type "tuple") = false
theorem noLen_enum : NoLen "enumerate" := ⟨by rw [typeLookup_type, builtinLookup_eq_fast]; kernel_rfl, by rw [typeLookup_type, builtinLookup_eq_fast]; kernel_rfl, by decide, by decide⟩
theorem noLen_zip : NoLen "zip" := ⟨by rw [typeLookup_type, builtinLookup_eq_fast]; kernel_rfl, by rw [typeLookup_type, builtinLookup_eq_fast]; kernel_rfl, by decide, by decide⟩
theorem ext_with {s : Shared} (W : WkG prog w I T wr n Y St D) (N : NoLen T) (hn : n ≤ sizeLine) (hA : A.handled = none) (res : Value) (c₀ : Nat) (hst : St 0 s.heap) (hD : lstAt s.heap D #[] c₀)
    (hR : ∀ h' tk acc' c', (∀ b o, b ≠ D → b ∉ wr → s.heap.get? b = some o → h'.get? b = some o) → lstAt h' D acc' c' → acc'.size = n → AllY Y acc' h' → R (.ok (.ret res)) { s with heap := h', toks := tk }) :
    wpAny (model prog w) A.in1 (Builtin.List.listExtendWith (.ref D) (.ref I) res)
      (fun fin s' => match fin with | .done f => R (.ok f) s' | .again c' => c'.quiet = true ∧ codeAny (model prog w) A c' R s') (fun e s' => R (.error e) s') s := by
  have hT : s.TypeIs (.ref I) T := W.ty 0 _ hst
  unfold Builtin.List.listExtendWith
  refine wpAny_bind (wpAny_typeOf hT ?_)
  have h1 : Builtin.List.listSameRef (.ref D) (.ref I) = false := by simp [Builtin.List.listSameRef, W.nI]
  simp only [h1, N.nl, N.nt, Bool.or_false, Bool.false_eq_true, if_false]
  refine wpAny_bind (W.self A.in1 s _ _ hst ?_)
  refine wpAny_bind (wpAny_holding ?_)
  unfold Builtin.List.listLengthHint
  refine wpAny_bind (wpAny_specialOf hT N.len ?_)
  show wpAny _ A.in1 (specialOf (Value.ref I) (Str.ofString "__length_hint__") >>= fun _ => _) _ _ _
  refine wpAny_bind (wpAny_specialOf hT N.hint (wpAny_pure ?_))
  show wpAny _ A.in1 (rule "list.extend.makes-room" >>= fun _ => Builtin.List.listTouch (.ref D) >>= fun _ => again (.builtin "list.extend.loop" ⟨[.ref D, .ref I, res], []⟩)) _ _ s
  refine wpAny_bind (wpAny_rule (wpAny_bind ?_))
  show wpAny _ A.in1 (updateSeq D (·.push .none) >>= fun _ => updateSeq D (·.pop)) _ _ _
  refine wpAny_bind (wpAny_updateSeq hD rfl ?_)
  have hD2 := Heap.get?_update_self (Obj.mapSeq (·.push Value.none)) hD rfl
  refine wpAny_updateSeq (hz := by seq_fits) hD2 rfl ?_
  have hD3 := Heap.get?_update_self (Obj.mapSeq (·.pop)) hD2 rfl
  have up : ∀ b o, b ≠ D → s.heap.get? b = some o → ((s.heap.update D (Obj.mapSeq (·.push Value.none))).update D (Obj.mapSeq (·.pop))).get? b = some o := fun b o hb e => upd_oth hb (upd_oth hb e)
  refine wpAny_pure ⟨plainId_quiet F.plain_extend_loop _, ext_loop W hn hA res n 0 _ _ _ rfl (Nat.zero_le _) (W.frame 0 _ _ hst up) hD3 rfl ⟨fun j v e => by simp at e, List.nodup_nil⟩ fun h' tk acc' c' hk hD' hz hY => ?_⟩
  exact hR h' tk acc' c' (fun b o hb hw e => hk b o hb hw (up b o hb e)) hD' hz hY
end
section
variable {prog : Program} {w : World} {I : Addr} {T : String} {wr : List Addr} {n : Nat} {Y : Nat → Value → Heap → Prop} {St : Nat → Heap → Prop} {A : Around} {E : Value → Shared → Prop} {s : Shared}
/-- list(x) -/
theorem call_listG {Q : Value → Shared → Prop} (W : WkG prog w I T wr n Y St s.heap.objs.size) (N : NoLen T) (hn : n ≤ sizeLine) (hA : A.handled = none) (hst : St 0 s.heap)
    (hQ : ∀ h' tk acc' c', (∀ b o, b ∉ wr → s.heap.get? b = some o → h'.get? b = some o) → lstAt h' s.heap.objs.size acc' c' → acc'.size = n → AllY Y acc' h' → Q (.ref s.heap.objs.size) { s with heap := h', toks := tk }) :
    wpAny (model prog w) A (call (.type "list") [.ref I]) Q E s := by
  refine callType_codes (Q₁ := fun obj s₁ => obj = .ref s.heap.objs.size ∧ s₁ = { s with heap := s.heap.push { cls := .type "list", data := .seq #[] } }) F.called_list (F.typeCall_list_1 _) F.entry_list_init (code_list_new _ ⟨rfl, rfl⟩) fun obj s₁ h₁ => ?_
  obtain ⟨rfl, rfl⟩ := h₁
  have hS : lstAt (s.heap.push { cls := .type "list", data := .seq #[] }) s.heap.objs.size #[] 0 := Heap.get?_push_size _ rfl
  refine ⟨⟨_, hS, rfl⟩, F.args_list_init_2 _ _, ?_⟩
  show wpAny _ A.in1.in1 (do let old ← Builtin.List.listItems (.ref s.heap.objs.size); Builtin.List.listUpdate (.ref s.heap.objs.size) (fun _ => #[]); letGo old.toList.reverse; Builtin.List.listExtendWith (.ref s.heap.objs.size) (.ref I) .none) _ _ _
  refine wpAny_bind ?_
  unfold Builtin.List.listItems
  refine wpAny_bind (wpAny_seqItems hS rfl (wpAny_pure ?_))
  show wpAny _ A.in1.in1 (updateSeq s.heap.objs.size (fun _ => #[]) >>= fun _ => letGo (#[] : Array Value).toList.reverse >>= fun _ => Builtin.List.listExtendWith (.ref s.heap.objs.size) (.ref I) .none) _ _ _
  refine wpAny_bind (wpAny_updateSeq hS rfl ?_)
  have hS2 := Heap.get?_update_self (Obj.mapSeq (fun _ => (#[] : Array Value))) hS rfl
  have up : ∀ b o, s.heap.get? b = some o → ((s.heap.push { cls := .type "list", data := .seq #[] }).update s.heap.objs.size (Obj.mapSeq (fun _ => (#[] : Array Value)))).get? b = some o := fun b o e => upd_oth (Nat.ne_of_lt (Heap.lt_size e)) (Heap.get?_push_of_some _ e)
  refine wpAny_bind (wpAny_letGo ?_)
  refine ext_with (A := A.in1) W N hn hA .none _ (W.frame 0 _ _ hst fun b o _ e => up b o e) hS2 fun h' tk acc' c' hk hD hz hY => ?_
  exact ⟨rfl, hQ h' tk acc' c' (fun b o hw e => hk b o (Nat.ne_of_lt (Heap.lt_size e)) hw (up b o e)) hD hz hY⟩
theorem code_collectG {R : Result → Shared → Prop} (W : WkG prog w I T wr n Y St s.heap.objs.size) (N : NoLen T) (hn : n ≤ sizeLine) (hA : A.handled = none) (hst : St 0 s.heap)
    (hR : ∀ h' tk acc' c', (∀ b o, b ∉ wr → s.heap.get? b = some o → h'.get? b = some o) → lstAt h' s.heap.objs.size acc' c' → acc'.size = n → AllY Y acc' h' → R (.ok (.ret (.ref s.heap.objs.size))) { s with heap := h', toks := tk }) :
    codeAny (model prog w) A (.builtin "proto.collect" ⟨[.ref I], []⟩) R s := by
  refine codeAny_builtin F.entry_proto_collect ?_
  rw [Around.under_plainId F.plain_proto_collect _]
  show wpAny _ A.in1 (newList [] >>= fun l => again (.builtin "list.__iadd__" ⟨[l, .ref I], []⟩)) _ _ _
  refine wpAny_bind (wpAny_newObj_type (wpAny_pure ⟨plainId_quiet F.plain_list_iadd _, codeAny_builtin F.entry_list_iadd ?_⟩))
  rw [Around.under_plainId F.plain_list_iadd _]
  have hS : lstAt (s.heap.push { cls := .type "list", data := .seq ([] : List Value).toArray }) s.heap.objs.size #[] 0 := Heap.get?_push_size _ rfl
  have up : ∀ b o, s.heap.get? b = some o → (s.heap.push { cls := .type "list", data := .seq ([] : List Value).toArray }).get? b = some o := fun b o e => Heap.get?_push_of_some _ e
  show wpAny _ A.in1 (Builtin.List.listExtendWith (.ref s.heap.objs.size) (.ref I) (.ref s.heap.objs.size)) _ _ _
  exact ext_with (A := A) (s := { s with heap := s.heap.push { cls := .type "list", data := .seq ([] : List Value).toArray } }) W N hn hA (.ref s.heap.objs.size) _ (W.frame 0 _ _ hst fun b o _ e => up b o e) hS fun h' tk acc' c' hk hD hz hY =>
    hR h' tk acc' c' (fun b o hw e => hk b o (Nat.ne_of_lt (Heap.lt_size e)) hw (up b o e)) hD hz hY
theorem collectG {Q : List Value → Shared → Prop} (W : WkG prog w I T wr n Y St s.heap.objs.size) (N : NoLen T) (hn : n ≤ sizeLine) (hA : A.handled = none) (hst : St 0 s.heap)
    (hQ : ∀ h' tk (acc' : Array Value), (∀ b o, b ∉ wr → s.heap.get? b = some o → h'.get? b = some o) → acc'.size = n → AllY Y acc' h' → Q acc'.toList { s with heap := h', toks := tk }) :
    wpAny (model prog w) A (collect (.ref I)) Q E s := by
  unfold collect
  refine wpAny_bind (wpAny_runValue (code_collectG W N hn hA hst fun h' tk acc' c' hk hD hz hY => ?_))
  show wpAny _ A (load s.heap.objs.size >>= fun _ => _) _ _ _
  exact wpAny_bind (wpAny_load hD (wpAny_pure (hQ h' tk acc' hk hz hY)))
/-- tuple(x) -/
theorem call_tupleG {Q : Value → Shared → Prop} (W : WkG prog w I T wr n Y St s.heap.objs.size) (N : NoLen T) (hn : n ≤ sizeLine) (hA : A.handled = none) (hst : St 0 s.heap)
    (hQ : ∀ h' tk (acc' : Array Value), (∀ b o, b ∉ wr → s.heap.get? b = some o → h'.get? b = some o) → acc'.size = n → AllY Y acc' h' → Q (.ref h'.objs.size) { s with heap := h'.push { cls := .type "tuple", data := .seq acc' }, toks := tk }) :
    wpAny (model prog w) A (call (.type "tuple") [.ref I]) Q E s := by
  refine callType_codes (Q₁ := fun obj s₁ => s₁.TypeIs obj "tuple" ∧ Q obj s₁) F.called_tuple (F.typeCall_tuple_1 _) F.entry_object_init ?_ fun obj s₁ h₁ =>
    ⟨h₁.1, F.args_object_init_2 obj _, object_init_meets F.called_tuple.init.lookup F.called_tuple.made (by decide) prog w A.in1 _ s₁ ⟨h₁.1, rfl, h₁.2⟩⟩
  refine codeAny_of_tree ?_
  show wpAny _ A.in1.in1 (do checkBuiltinCall "tuple.__new__" ⟨[.type "tuple", .ref I], []⟩; again (.builtin "tuple.__new__" ⟨[.type "tuple", .ref I], []⟩)) _ _ s
  refine wpAny_bind (wpAny_of_eq (F.newCall_tuple_1 _) (wpAny_pure ⟨plainId_quiet F.plain_tuple_new _, codeAny_builtin F.entry_tuple_new ?_⟩))
  rw [Around.under_plainId F.plain_tuple_new _]
  have hsub := sub_tuple_self
  have hinit := init_tuple_lookup
  have hmh := madeHere_tuple
  have hTI : s.TypeIs (.ref I) T := W.ty 0 _ hst
  have hnt := N.nt
  have hnl := N.nl
  wp_walk using wpAny_typeOf hTI, collectG (A := A.in1.in1) W N hn hA hst
  intro h' tk acc' hk hz hY
  show wpAny _ _ (Builtin.Tuple.tupleExact acc'.toList.toArray >>= fun v => ret v) _ _ _
  unfold Builtin.Tuple.tupleExact
  refine wpAny_bind (wpAny_newObj_type ?_ (by show acc'.toList.toArray.size ≤ sizeLine; simp only [Array.toArray_toList]; omega))
  have e : acc'.toList.toArray = acc' := by simp
  rw [e]
  exact wpAny_pure ⟨⟨_, Heap.get?_push_size _ rfl, rfl⟩, hQ h' tk acc' hk hz hY⟩
end
end PkG


set_option Elab.async false
set_option linter.all false
set_option maxRecDepth 100000
set_option maxHeartbeats 4000000
/-! Pk8: list(enumerate(t)), tuple(zip(x, y)) in the layer. -/
namespace PkG
open PySem PySem.W PyProof.Rows
section
variable {prog : Program} {w : World}
abbrev pairO (x y : Value) : Obj := { cls := .type "tuple", data := .seq #[x, y] }
theorem wkEnum {e it D0 : Addr} {fp : List Addr} {n : Nat} {P : Nat → Value → Prop} {S : Nat → Heap → Prop} (DR : ∀ A : Around, A.handled = none → Draws prog w A it fp n P S) (fr : ∀ i h h', S i h → (∀ b ∈ fp, ∀ o, h.get? b = some o → h'.get? b = some o) → S i h')
    (live : ∀ i h, S i h → ∃ o, h.get? it = some o) (hei : e ≠ it) (hef : e ∉ fp) (hDe : D0 ≠ e) (hDi : D0 ≠ it) (hDf : D0 ∉ fp) :
    WkG prog w e "enumerate" [e, it] n (fun i v h => ∃ T t x, v = .ref T ∧ D0 < T ∧ T ≠ e ∧ T ≠ it ∧ P i x ∧ h.get? T = some (pairO (.int i t) x))
      (fun i h => S i h ∧ ((i = 0 ∧ ∃ old, IsEnum h e it 0 old) ∨ ∃ old T f oT, IsEnumHeld h e it i old T f ∧ h.get? T = some oT ∧ T ≠ e ∧ T ≠ it ∧ T ≠ D0)) D0 where
  nD := by simp [hDe, hDi]
  nI := hDe
  ty := fun i h st => by
    rcases st.2 with ⟨_, old, q⟩ | ⟨old, T, f, oT, q, _⟩
    · exact ⟨_, q, rfl⟩
    · exact ⟨_, q, rfl⟩
  frame := fun i h h' st k => by
    refine ⟨fr i h h' st.1 fun b hb o q => k b o (fun z => hDf (z ▸ hb)) q, ?_⟩
    rcases st.2 with ⟨h0, old, q⟩ | ⟨old, T, f, oT, q, q2, h1, h2, h3⟩
    · exact .inl ⟨h0, old, k e _ hDe.symm q⟩
    · exact .inr ⟨old, T, f, oT, k e _ hDe.symm q, k T _ h3 q2, h1, h2, h3⟩
  ylive := fun i v h ⟨T, t, x, ev, _, _, _, _, q⟩ => ⟨T, ev, Heap.lt_size q⟩
  yframe := fun i v h h' ⟨T, t, x, ev, h1, h2, h3, hP, q⟩ k => ⟨T, t, x, ev, h1, h2, h3, hP, k T _ (Nat.ne_of_gt h1) (by simp [h2, h3]) q⟩
  self := fun A s Q E st q => by
    rcases st.2 with ⟨_, old, q0⟩ | ⟨old, T, f, oT, q0, _⟩
    · exact wpAny_pyIter_enum q0 q
    · have hT : s.TypeIs (.ref e) "enumerate" := ⟨_, q0, rfl⟩
      refine wpAny_pyIter_slot hT F.slot_enumerate_iter (wpAny_call_entry F.slot_enumerate_iter hT F.entry_enumerate_iter ?_ (F.args_enumerate_iter_1 _))
      show wpAny _ _ (ret (.ref e)) _ _ s
      exact wpAny_pure ⟨_, rfl, _, _, hT, F.slot_enumerate_next.lookup, q⟩
  item := fun A i s Q E hA hi st hD hQ => by
    obtain ⟨hs, st⟩ := st
    have hil : it < s.heap.objs.size := by
      obtain ⟨_, y⟩ := live _ _ hs
      exact Heap.lt_size y
    have fin : ∀ x h' tk, P i x → (∃ old T f, IsEnumHeld h' e it ((i : Int) + 1) old T f ∧ (∃ oT, h'.get? T = some oT) ∧ T ≠ e ∧ T ≠ it ∧ T ≠ D0) → S (i + 1) h' → e < s.heap.objs.size → h'.get? s.heap.objs.size = some (pairO (.int i tk) x) →
        (∀ b o, b ≠ e → b ≠ it → s.heap.get? b = some o → h'.get? b = some o) → Q (some (.ref s.heap.objs.size)) { s with heap := h', toks := tk + 1 } := fun x h' tk hP ⟨old, T, f, q, ⟨oT, q2⟩, h1, h2, h3⟩ hs' hel hT hk => by
      refine hQ _ h' (tk + 1) rfl ⟨_, tk, x, rfl, hD, Nat.ne_of_gt hel, Nat.ne_of_gt hil, hP, hT⟩ ⟨hs', .inr ⟨old, T, f, oT, ?_, q2, h1, h2, h3⟩⟩ fun b o hb q => hk b o (fun z => hb (by simp [z])) (fun z => hb (by simp [z])) q
      have e1 : ((i + 1 : Nat) : Int) = (i : Int) + 1 := by omega
      rw [e1]
      exact q
    rcases st with ⟨h0, old, q⟩ | ⟨old, T, f, oT, q, q2, h1, h2, h3⟩
    · have hel : e < s.heap.objs.size := Heap.lt_size q
      subst h0
      exact wpAny_pyNext_enum_itemD (DR A.in1 hA) q hs hi hei hef fun x h' tk hP ho hs' hT hsz hk => fin x h' tk hP ⟨_, _, _, ho, ⟨_, hT⟩, Nat.ne_of_gt hel, Nat.ne_of_gt hil, Nat.ne_of_gt hD⟩ hs' hel hT hk
    · have hel : e < s.heap.objs.size := Heap.lt_size q
      exact enum_next (DR A.in1 hA) q q2 h1 h2 hs hi hei hef fun x h' tk hP ho hs' hT hsz hk => fin x h' tk hP ⟨_, _, _, ho, ⟨_, hk T _ h1 h2 q2⟩, h1, h2, h3⟩ hs' hel hT hk
  done := fun A s Q E hA st hQ => by
    rcases st.2 with ⟨h0, old, q⟩ | ⟨old, T, f, oT, q, q2, h1, h2, h3⟩
    · exact enum_end (DR A.in1 hA) q rfl rfl rfl st.1 fun h' hx => hQ h' s.toks fun b o hb q => hx b o (fun z => hb (by simp [z])) q
    · exact enum_end (DR A.in1 hA) q rfl rfl rfl st.1 fun h' hx => hQ h' s.toks fun b o hb q => hx b o (fun z => hb (by simp [z])) q
theorem wkZip {z TI TO i1 i2 D0 : Addr} {fp1 fp2 : List Addr} {n1 n2 n : Nat} {P1 P2 : Nat → Value → Prop} {S1 S2 : Nat → Heap → Prop} (hn : n = min n1 n2) (Z : ZipSep2 z TI TO i1 i2 fp1 fp2)
    (D1 : ∀ A : Around, A.handled = none → Draws prog w A i1 fp1 n1 P1 S1) (D2 : ∀ A : Around, A.handled = none → Draws prog w A i2 fp2 n2 P2 S2)
    (fr1 : ∀ i h h', S1 i h → (∀ b ∈ fp1, ∀ o, h.get? b = some o → h'.get? b = some o) → S1 i h') (fr2 : ∀ i h h', S2 i h → (∀ b ∈ fp2, ∀ o, h.get? b = some o → h'.get? b = some o) → S2 i h')
    (lv1 : ∀ i h, S1 i h → ∃ o, h.get? i1 = some o) (lv2 : ∀ i h, S2 i h → ∃ o, h.get? i2 = some o) (d1 : D0 ≠ z) (d2 : D0 ≠ TI) (d3 : D0 ≠ TO) (d4 : D0 ∉ fp1) (d5 : D0 ∉ fp2) :
    WkG prog w z "zip" [z, TO, i1, i2] n (fun i v h => ∃ T x y, v = .ref T ∧ D0 < T ∧ T ≠ z ∧ T ≠ TO ∧ T ≠ i1 ∧ T ≠ i2 ∧ P1 i x ∧ P2 i y ∧ h.get? T = some (pairO x y))
      (fun i h => S1 i h ∧ S2 i h ∧ IsTupOf2 h TI (.ref i1) (.ref i2) ∧ TO < h.objs.size ∧ ((i = 0 ∧ IsZip h z TI TO .none ∧ ∃ a b, IsTupOf2 h TO a b) ∨ ∃ T f oT, IsZipHeld h z TI TO T f ∧ h.get? T = some oT ∧ T ≠ z ∧ T ≠ i1 ∧ T ≠ i2 ∧ T ≠ D0) ∧ ∃ oO, h.get? TO = some oO) D0 where
  nD := by
    have a : ¬ D0 = i1 := fun e : D0 = i1 => d4 (e ▸ Z.mem1)
    have b : ¬ D0 = i2 := fun e : D0 = i2 => d5 (e ▸ Z.mem2)
    simp [d1, d3, a, b]
  nI := d1
  ty := fun i h st => by
    rcases st.2.2.2.2.1 with ⟨_, q, _⟩ | ⟨T, f, oT, q, _⟩
    · exact ⟨_, q, rfl⟩
    · exact ⟨_, q, rfl⟩
  frame := fun i h h' st k => by
    obtain ⟨s1, s2, hTI, _, st, oO, hO⟩ := st
    have hO' := k TO _ d3.symm hO
    refine ⟨fr1 i h h' s1 fun b hb o q => k b o (fun z => d4 (z ▸ hb)) q, fr2 i h h' s2 fun b hb o q => k b o (fun z => d5 (z ▸ hb)) q, k TI _ d2.symm hTI, Heap.lt_size hO', ?_, oO, hO'⟩
    rcases st with ⟨h0, q, a, b, hT⟩ | ⟨T, f, oT, q, q2, h1, h2, h3, h4⟩
    · exact .inl ⟨h0, k z _ d1.symm q, a, b, k TO _ d3.symm hT⟩
    · exact .inr ⟨T, f, oT, k z _ d1.symm q, k T _ h4 q2, h1, h2, h3, h4⟩
  ylive := fun i v h ⟨T, x, y, ev, _, _, _, _, _, _, _, q⟩ => ⟨T, ev, Heap.lt_size q⟩
  yframe := fun i v h h' ⟨T, x, y, ev, h1, h2, h3, h4, h5, hP, hP2, q⟩ k => ⟨T, x, y, ev, h1, h2, h3, h4, h5, hP, hP2, k T _ (Nat.ne_of_gt h1) (by simp [h2, h3, h4, h5]) q⟩
  self := fun A s Q E st q => by
    rcases st.2.2.2.2.1 with ⟨_, q0, _⟩ | ⟨T, f, oT, q0, _⟩
    · exact wpAny_pyIter_zip q0 q
    · have hT : s.TypeIs (.ref z) "zip" := ⟨_, q0, rfl⟩
      refine wpAny_pyIter_slot hT F.slot_zip_iter (wpAny_call_entry F.slot_zip_iter hT F.entry_zip_iter ?_ (F.args_zip_iter_1 _))
      show wpAny _ _ (ret (.ref z)) _ _ s
      exact wpAny_pure ⟨_, rfl, _, _, hT, F.slot_zip_next.lookup, q⟩
  item := fun A i s Q E hA hi st hD hQ => by
    obtain ⟨s1, s2, hTI, hTO, st, oO, hO⟩ := st
    have l1 : i1 < s.heap.objs.size := by
      obtain ⟨_, y⟩ := lv1 _ _ s1
      exact Heap.lt_size y
    have l2 : i2 < s.heap.objs.size := by
      obtain ⟨_, y⟩ := lv2 _ _ s2
      exact Heap.lt_size y
    have hlt1 : i < n1 := by omega
    have hlt2 : i < n2 := by omega
    rcases st with ⟨h0, q, a, b, hT⟩ | ⟨T, f, oT, q, q2, h1, h2, h3, h4⟩
    · have lz : z < s.heap.objs.size := Heap.lt_size q
      refine wpAny_pyNext_zipD2_item Z (D1 A.in1 hA) (D2 A.in1 hA) q hTI hT s1 s2 hlt1 hlt2 fun x1 x2 h' tk p1 p2 q' hT' t1 t2 hp hsz hk => ?_
      refine hQ _ h' tk rfl ⟨_, x1, x2, rfl, hD, Nat.ne_of_gt lz, Nat.ne_of_gt hTO, Nat.ne_of_gt l1, Nat.ne_of_gt l2, p1, p2, hp⟩ ⟨t1, t2, hk TI _ Z.TIz Z.TITO Z.TIi1 Z.TIi2 hTI, Heap.lt_size hT', .inr ⟨_, false, _, q', hp, Nat.ne_of_gt lz, Nat.ne_of_gt l1, Nat.ne_of_gt l2, Nat.ne_of_gt hD⟩, _, hT'⟩
        fun b o hb q => hk b o (fun z => hb (by simp [z])) (fun z => hb (by simp [z])) (fun z => hb (by simp [z])) (fun z => hb (by simp [z])) q
    · have lz : z < s.heap.objs.size := Heap.lt_size q
      refine zip_next Z (D1 A.in1 hA) (D2 A.in1 hA) q q2 hTI s1 s2 hlt1 hlt2 fun x1 x2 h' tk p1 p2 q' t1 t2 hp hsz hk => ?_
      have hO' := hk TO _ Z.TOz Z.Ti1 Z.Ti2 hO
      refine hQ _ h' tk rfl ⟨_, x1, x2, rfl, hD, Nat.ne_of_gt lz, Nat.ne_of_gt hTO, Nat.ne_of_gt l1, Nat.ne_of_gt l2, p1, p2, hp⟩ ⟨t1, t2, hk TI _ Z.TIz Z.TIi1 Z.TIi2 hTI, Heap.lt_size hO', .inr ⟨T, true, oT, q', hk T _ h1 h2 h3 q2, h1, h2, h3, h4⟩, oO, hO'⟩
        fun b o hb q => hk b o (fun z => hb (by simp [z])) (fun z => hb (by simp [z])) (fun z => hb (by simp [z])) q
  done := fun A s Q E hA st hQ => by
    obtain ⟨s1, s2, hTI, hTO, st, oO, hO⟩ := st
    rcases st with ⟨h0, q, a, b, hT⟩ | ⟨T, f, oT, q, q2, h1, h2, h3, h4⟩
    · exact wpAny_pyNext_zipD2_end Z (D1 A.in1 hA) (D2 A.in1 hA) q hTI hT s1 s2 (by omega) (by omega) (by omega) fun h' tk hk => hQ h' tk fun b o hb q => hk b o (fun z => hb (by simp [z])) (fun z => hb (by simp [z])) (fun z => hb (by simp [z])) (fun z => hb (by simp [z])) q
    · exact zip_end Z (D1 A.in1 hA) (D2 A.in1 hA) q q2 hTI s1 s2 (by omega) fun h' tk hk => hQ h' tk fun b o hb q => hk b o (fun z => hb (by simp [z])) (fun z => hb (by simp [z])) (fun z => hb (by simp [z])) q
end
end PkG


set_option Elab.async false
set_option linter.all false
set_option maxRecDepth 100000
set_option maxHeartbeats 4000000
/-! Pk9: the raw rules as the layer's rules. -/
namespace Pk
open PySem PySem.Spec PyProof.Rows L2

/-- new things in the heap: l with o, and the tuples ts -/
structure NewPs (H H2 : Hp) (l : Addr) (o : HO) (ts : List Addr) (f : Nat → List V) : Prop where
  old : ∀ b u, H b = some u → H2 b = some u
  ln : H l = none
  lo : H2 l = some o
  tn : ∀ t ∈ ts, H t = none
  tt : ∀ j t, ts[j]? = some t → H2 t = some (.tup (f j))
def addB (B H2 : Hp) (l : Addr) (ts : List Addr) : Hp := fun b => if b = l ∨ b ∈ ts then H2 b else B b
section
variable {w : Wd} {n m : Nat} {K : PySem.W.Frag} {B H H2 : Hp} {l : Addr} {o : HO} {ts : List Addr} {f : Nat → List V}
theorem NewPs.same (N : NewPs H H2 l o ts f) (s : Same B H) : Same B (addB B H2 l ts) := fun b u e => by
  unfold addB
  split
  · exact N.old b u (s b u e)
  · exact e
theorem NewPs.sub (N : NewPs H H2 l o ts f) (s : Same B H) : Same (addB B H2 l ts) H2 := fun b u e => by
  unfold addB at e
  split at e
  · exact e
  · exact N.old b u (s b u e)
theorem NewPs.at (N : NewPs H H2 l o ts f) : addB B H2 l ts l = some o := by
  unfold addB
  rw [if_pos (.inl rfl)]
  exact N.lo
theorem NewPs.atT (N : NewPs H H2 l o ts f) {j : Nat} {t : Addr} (h : ts[j]? = some t) : addB B H2 l ts t = some (.tup (f j)) := by
  unfold addB
  rw [if_pos (.inr (List.mem_of_getElem? h))]
  exact N.tt j t h
theorem go_newPs {o : Nat → List Addr → HO} {k : Nat} {P : V → Hp → Prop} (h : ∀ H H2 l ts, Same B H → ts.length = k → NewPs H H2 l (o k ts) ts f → P (.ref l) (addB B H2 l ts)) :
    Go w n n (fun H (Q : V → Hp → Prop) => ∀ l ts H2, ts.length = k → NewPs H H2 l (o k ts) ts f → Q (.ref l) H2) B P := fun H c Q q l ts H2 hl N => by
  refine q (.ref l) (addB B H2 l ts) H2 ⟨N.same c.sub, fun a u _ e => N.old a u e, fun a e => ?_, fun a e => ?_⟩ ⟨N.sub c.sub, fun a s => ?_, ?_⟩ (h H H2 l ts c.sub hl N)
  · obtain ⟨u, e⟩ := ne_some e
    rw [N.old a u e]
    exact Option.some_ne_none u
  · unfold addB at e
    split at e
    · rename_i q
      refine .inr ?_
      rcases q with q | q
      · rw [q]; exact N.ln
      · exact N.tn a q
    · exact .inl e
  · have hh := w.has n H a c.wd s
    unfold addB
    rw [if_neg]
    · exact c.cl a s
    · rintro (q | q)
      · exact hh (by rw [q]; exact N.ln)
      · exact hh (N.tn a q)
  · exact w.stab n H H2 (fun a s => by
      obtain ⟨u, e⟩ := ne_some (w.has n H a c.wd s)
      rw [e]
      exact N.old a u e) c.wd
theorem ps_of_get : ∀ {vs : List V} {Ps : List Pr}, vs.length = Ps.length → (∀ (i : Nat) v P, vs[i]? = some v → Ps[i]? = some P → P.p v B) → PsAt vs Ps B
  | [], [], _, _ => .nil
  | v :: vs, P :: Ps, hl, h => .cons (h 0 v P rfl rfl) (ps_of_get (by simpa using hl) fun i v P a b => h (i + 1) v P (by simpa using a) (by simpa using b))
  | [], _ :: _, hl, _ => by simp at hl
  | _ :: _, [], hl, _ => by simp at hl
end

end Pk
namespace PkG
open PySem PySem.Spec PyProof.Rows L2
def bkV : Value → V
  | .ref a => .ref a
  | _ => .non
theorem bkV_refs (ts : List Addr) : (ts.map Value.ref).map bkV = ts.map V.ref := by
  rw [List.map_map]
  rfl
theorem vals_bk : ∀ (us : List Value), (∀ u ∈ us, ∃ t, u = Value.ref t) → Vals (us.map bkV) us
  | [], _ => .nil
  | u :: us, h => by
    obtain ⟨t, rfl⟩ := h u List.mem_cons_self
    exact .cons rfl (vals_bk us fun v hv => h v (List.mem_cons_of_mem _ hv))
theorem refs_acc {acc : Array Value} (h : ∀ (j : Nat) u, acc[j]? = some u → ∃ t, u = Value.ref t) : ∀ u ∈ acc.toList, ∃ t, u = Value.ref t := fun u hu => by
  obtain ⟨j, hj, e⟩ := List.mem_iff_getElem.mp hu
  exact h j u (by rw [← Array.getElem?_toList, List.getElem?_eq_getElem hj, e])
theorem lst_ok {P : Program} {w : World} {H : Hp} {h' : Heap} {D : Addr} {acc : Array Value} {c n : Nat} (hz : acc.size = n) (hn : n ≤ sizeLine) (hr : ∀ (j : Nat) u, acc[j]? = some u → ∃ t, u = Value.ref t) (hD : lstAt h' D acc c) : ObjOk P w H h' D (.lst (acc.toList.map bkV)) :=
  ⟨by rw [List.length_map, Array.length_toList, hz]; exact hn, acc.toList, c, vals_bk _ (refs_acc hr), by rw [Array.toArray_toList]; exact hD⟩
theorem tup_ok {P : Program} {w : World} {H : Hp} {h' : Heap} {acc : Array Value} {n : Nat} (hz : acc.size = n) (hn : n ≤ sizeLine) (hr : ∀ (j : Nat) u, acc[j]? = some u → ∃ t, u = Value.ref t) : ObjOk P w H (h'.push { cls := .type "tuple", data := .seq acc }) h'.objs.size (.tup (acc.toList.map bkV)) :=
  ⟨by rw [List.length_map, Array.length_toList, hz]; exact hn, acc.toList, vals_bk _ (refs_acc hr), by rw [Array.toArray_toList]; exact IsTup.new _ _⟩
end PkG
namespace Pk
open PySem PySem.Spec PyProof.Rows L2 PySem.W
/-! ### list(enumerate(t)), tuple(zip(x, y)) -/
def tListEnum (K : PySem.W.Frag) (te : TE) : TE := fun σ H Q => te σ H fun x H1 => ∃ a xs, x = .ref a ∧ SqT K H1 a xs ∧ xs.length ≤ 90000 ∧
  ∀ l ts H2, ts.length = xs.length → NewPs H1 H2 l (.lst (ts.map V.ref)) ts (fun j => [.int (j : Int), xs.getD j .non]) → Q (.ref l) H2
def tTupZip (K : PySem.W.Frag) (ta : TA) : TE := fun σ H Q => ta σ H fun vs H1 => ∃ a b xs ys, vs = [.ref a, .ref b] ∧ ((SqL K H1 a xs ∧ SqL K H1 b ys) ∨ (SqT K H1 a xs ∧ SqT K H1 b ys)) ∧ xs.length ≤ 90000 ∧
  ∀ l ts H2, ts.length = min xs.length ys.length → NewPs H1 H2 l (.tup (ts.map V.ref)) ts (fun j => [xs.getD j .non, ys.getD j .non]) → Q (.ref l) H2
theorem refs_map : ∀ (us : List Value), (∀ u ∈ us, ∃ t, u = Value.ref t) → ∃ ts : List Addr, us = ts.map Value.ref
  | [], _ => ⟨[], rfl⟩
  | u :: us, h => by
    obtain ⟨t, e⟩ := h u List.mem_cons_self
    obtain ⟨ts, e2⟩ := refs_map us fun v hv => h v (List.mem_cons_of_mem _ hv)
    exact ⟨t :: ts, by rw [e, e2] <;> rfl⟩
theorem vals_refs : ∀ (ts : List Addr), Vals (ts.map V.ref) (ts.map Value.ref)
  | [] => .nil
  | t :: ts => .cons rfl (vals_refs ts)
theorem nodup_unmap {α β : Type} {g : α → β} : ∀ {l : List α}, (l.map g).Nodup → l.Nodup
  | [], _ => List.nodup_nil
  | x :: l, h => by
    rw [List.map_cons, List.nodup_cons] at h
    exact List.nodup_cons.mpr ⟨fun z => h.1 (List.mem_map.mpr ⟨x, z, rfl⟩), nodup_unmap h.2⟩
section
variable {X : Cx} {pins : List (Addr × Obj)} {σ : L2.St} {H : Hp} {s : Shared} {h' : Heap} {tk : Nat}
/-- the new tuples and what holds them are taken into the abstract heap -/
theorem take_ps {l : Addr} {o : HO} {us : List Value} {k : Nat} {f : Nat → List V} (I0 : Inv X pins σ H s) (kp : ∀ b u, s.heap.get? b = some u → h'.get? b = some u) (I1 : Inv X pins σ (upd H l o) { s with heap := h', toks := tk }) (hl : s.heap.objs.size ≤ l) (hk : us.length = k) (nd : us.Nodup)
    (hu : ∀ (j : Nat) u, us[j]? = some u → ∃ t, u = Value.ref t ∧ s.heap.objs.size ≤ t ∧ t ≠ l ∧ ∃ a b, h'.get? t = some (PkG.pairO a b) ∧ Vals (f j) [a, b]) :
    ∃ ts H2, us = ts.map Value.ref ∧ Inv X pins σ H2 { s with heap := h', toks := tk } ∧ NewPs H H2 l o ts f := by
  obtain ⟨ts, ets⟩ := refs_map us fun u hu' => by
    obtain ⟨j, hj, e⟩ := List.mem_iff_getElem.mp hu'
    obtain ⟨t, e2, _⟩ := hu j u (by rw [List.getElem?_eq_getElem hj, e])
    exact ⟨t, e2⟩
  subst ets
  have ndt : ts.Nodup := nodup_unmap nd
  have at_ : ∀ (j : Nat) t, ts[j]? = some t → s.heap.objs.size ≤ t ∧ t ≠ l ∧ ∃ a b, h'.get? t = some (PkG.pairO a b) ∧ Vals (f j) [a, b] := fun j t e => by
    obtain ⟨t', e2, r⟩ := hu j (.ref t) (by rw [List.getElem?_map, e] <;> rfl)
    obtain rfl := Value.ref.inj e2
    exact r
  obtain ⟨H2, I2, g, q⟩ := L2.DX.takeT (P := fun t vs => ∃ j, ts[j]? = some t ∧ vs = f j) I0 ts (upd H l o) I1 ndt fun t ht => by
    obtain ⟨j, hj, e⟩ := List.mem_iff_getElem.mp ht
    have e' : ts[j]? = some t := by rw [List.getElem?_eq_getElem hj, e]
    obtain ⟨h1, h2, a, b, h3, h4⟩ := at_ j t e'
    refine ⟨h1, ?_, f j, ⟨j, e', rfl⟩, fun H3 => ⟨?_, [a, b], h4, ⟨_, h3, rfl, _, rfl⟩⟩⟩
    · rw [upd_ne h2]
      exact I0.hok.fresh h1
    · rw [Vals.length h4]
      exact Nat.le_trans (by decide : 2 ≤ 100000) (by decide)
  have hln : H l = none := I0.hok.fresh hl
  refine ⟨ts, H2, rfl, I2, ⟨fun b u e => g b u (by rw [upd_ne (ne_of_none e hln)]; exact e), hln, g l o upd_same, fun t ht => ?_, fun j t e => ?_⟩⟩
  · obtain ⟨j, hj, e⟩ := List.mem_iff_getElem.mp ht
    exact I0.hok.fresh (at_ j t (by rw [List.getElem?_eq_getElem hj, e])).1
  · obtain ⟨vs, ⟨j', e', ev⟩, q⟩ := q t (List.mem_of_getElem? e)
    have ej : j = j' := by
      obtain ⟨h1, e1⟩ := List.getElem?_eq_some_iff.mp e
      obtain ⟨h2, e2⟩ := List.getElem?_eq_some_iff.mp e'
      exact (List.getElem_inj ndt).mp (e1.trans e2.symm)
    rw [q, ev, ej]
end
theorem vals_getD {xs : List V} {its : List Value} (r : Vals xs its) {j : Nat} {u : Value} (h : its.toArray[j]? = some u) : RelV (xs.getD j .non) u := by
  have h' : its[j]? = some u := by simpa using h
  have hj : j < xs.length := by
    rw [Vals.length r]
    exact (List.getElem?_eq_some_iff.mp h').1
  obtain ⟨u', e1, e2⟩ := Vals.get r (List.getElem?_eq_getElem hj)
  rw [h'] at e1
  rw [List.getD_eq_getElem?_getD, List.getElem?_eq_getElem hj, Option.some.inj e1]
  exact e2
section
variable {X : Cx} {e e2 : Expr} {te : TE} {ta : TA} {p p2 pos q : Pos}
theorem pe_listEnum (hc : X.calm = true) (hg : Gl X "list") (hm : X.mg "list" = none) (hg2 : Gl X "enumerate") (hm2 : X.mg "enumerate" = none) (he : PE X e te) (na : starEach [e] X.env = (false, eval e X.env) :: starEach [] X.env := by rfl)
    (nb : starEach [.Call (.Name "enumerate" p2) [e] [] q] X.env = (false, eval (.Call (.Name "enumerate" p2) [e] [] q) X.env) :: starEach [] X.env := by rfl) :
    PE X (.Call (.Name "list" p) [.Call (.Name "enumerate" p2) [e] [] q] [] pos) (tListEnum X.K te) := by
  refine ⟨fun pins s σ H Q I h => ?_⟩
  refine Call_ (ld_blt I hg hm boot_list (PyProof.Rows.callWith_type1 (args_cons (Call_ (ld_blt I hg2 hm2 boot_enumerate (PyProof.Rows.callWith_type1 (args_cons (thn (he.run pins s σ H _ I h) fun u s1 ⟨v, H1, I1, r1, q1⟩ => args_nil ?_) na) na rfl))) nb) nb rfl))
  obtain ⟨a, xs, rfl, hq, hlen, q1⟩ := q1
  obtain rfl : u = Value.ref a := r1
  obtain ⟨its, rv, pt, hz⟩ := I1.tuple hq
  have hh : X.A.handled = none := I1.ok.hd hc
  have hl := Vals.length rv
  have ht : s1.heap.IsTuple a its.toArray := pt
  have hlt : a < s1.heap.objs.size := by
    obtain ⟨_, e, _⟩ := ht
    exact Heap.lt_size e
  refine PkG.enum_call1 (begins_tuple a its.toArray) ht fun h1 he h0 hsz hk => args_nil ?_
  have ht1 : h1.IsTuple a its.toArray := ht.at fun o q => hk a o q
  have hne : a ≠ s1.heap.objs.size := Nat.ne_of_lt hlt
  have hD : h1.objs.size = s1.heap.objs.size + 2 := hsz
  have W := PkG.wkEnum (prog := X.prog) (w := X.w) (e := s1.heap.objs.size + 1) (it := s1.heap.objs.size) (D0 := h1.objs.size) (fp := [s1.heap.objs.size, a]) (n := its.toArray.size) (P := fun i v => its.toArray[i]? = some v)
    (S := fun i h => h.IsTupleIter s1.heap.objs.size a i ∧ h.IsTuple a its.toArray) (fun A hA => PySem.Draws.tuple hA _ a hne _) (fun i h h' st k => ⟨st.1.at fun o q => k _ (by simp) o q, st.2.at fun o q => k _ (by simp) o q⟩) (fun i h st => let ⟨o, ho, _⟩ := st.1; ⟨o, ho⟩)
    (Nat.succ_ne_self _) (by simp only [List.mem_cons, List.not_mem_nil, or_false, not_or]; exact ⟨Nat.succ_ne_self _, Nat.ne_of_gt (Nat.lt_succ_of_lt hlt)⟩) (by rw [hD]; exact Nat.ne_of_gt (Nat.lt_succ_self _)) (by rw [hD]; exact Nat.ne_of_gt (Nat.lt_add_of_pos_right (by decide)))
    (by rw [hD]; simp only [List.mem_cons, List.not_mem_nil, or_false, not_or]; exact ⟨Nat.ne_of_gt (Nat.lt_add_of_pos_right (by decide)), Nat.ne_of_gt (Nat.lt_of_lt_of_le hlt (Nat.le_add_right _ _))⟩)
  refine PkG.call_listG (s := { s1 with heap := h1 }) W PkG.noLen_enum (by rw [List.size_toArray, ← hl]; exact hz) hh ⟨⟨⟨_, h0, rfl, rfl⟩, ht1⟩, .inl ⟨rfl, _, he⟩⟩ fun h' tk acc c hk' hD' hz' hY => ?_
  have kp : ∀ b u, s1.heap.get? b = some u → h'.get? b = some u := fun b u e => by
    have hb := Heap.lt_size e
    exact hk' b u (by simp only [List.mem_cons, List.not_mem_nil, or_false, not_or]; exact ⟨Nat.ne_of_lt (Nat.lt_succ_of_lt hb), Nat.ne_of_lt hb⟩) (hk b u e)
  have hlst : ObjOk X.prog X.w (upd H1 h1.objs.size (.lst (acc.toList.map PkG.bkV))) h' h1.objs.size (.lst (acc.toList.map PkG.bkV)) := PkG.lst_ok hz' (by rw [List.size_toArray, ← hl]; exact hz) (fun j u e => let ⟨T, _, _, ev, _⟩ := hY.1 j u e; ⟨T, ev⟩) hD'
  have I2 := I1.laid (t' := tk) kp (show s1.heap.objs.size ≤ h1.objs.size by rw [hD]; exact Nat.le_add_right _ _) hlst
  obtain ⟨ts, H2, et, I3, N⟩ := take_ps (us := acc.toList) (k := xs.length) (f := fun j => [.int (j : Int), xs.getD j .non]) I1 kp I2 (by rw [hD]; exact Nat.le_add_right _ _) (by rw [Array.length_toList, hz', List.size_toArray, hl]) hY.2 fun j u e => by
    obtain ⟨T, t, x, ev, n1, n2, n3, hP, hT⟩ := hY.1 j u (by rw [← Array.getElem?_toList]; exact e)
    exact ⟨T, ev, Nat.le_of_lt (Nat.lt_of_le_of_lt (by rw [hD]; exact Nat.le_add_right _ _) n1), Nat.ne_of_gt n1, _, _, hT, .cons ⟨t, rfl⟩ (.cons (vals_getD rv hP) .nil)⟩
  rw [et, PkG.bkV_refs ts] at N
  have lt : ts.length = xs.length := by
    have q := congrArg List.length et
    rw [Array.length_toList, hz', List.size_toArray, List.length_map] at q
    omega
  exact ⟨.ref h1.objs.size, H2, I3, rfl, q1 _ ts H2 lt N⟩
theorem pe_tupZip (hc : X.calm = true) (hg : Gl X "tuple") (hm : X.mg "tuple" = none) (hg2 : Gl X "zip") (hm2 : X.mg "zip" = none) (ha : PA X [e, e2] ta) (na : starEach [e, e2] X.env = (false, eval e X.env) :: starEach [e2] X.env := by rfl)
    (hpl : (backTo q (starEach [e2] X.env)).any (·.1) = false := by rfl) (nb : starEach [.Call (.Name "zip" p2) [e, e2] [] q] X.env = (false, eval (.Call (.Name "zip" p2) [e, e2] [] q) X.env) :: starEach [] X.env := by rfl) :
    PE X (.Call (.Name "tuple" p) [.Call (.Name "zip" p2) [e, e2] [] q] [] pos) (tTupZip X.K ta) := by
  refine ⟨fun pins s σ H Q I h => ?_⟩
  refine Call_ (ld_blt I hg hm boot_tuple (PyProof.Rows.callWith_type1 (args_cons (Call_ (ld_blt I hg2 hm2 PyProof.Rows.boot_zip (PyProof.Rows.callWith_type1 (thn (ha.run q pins s σ H _ I h) fun us s1 ⟨vs, H1, I1, r1, q1⟩ => ?_) na hpl))) nb) nb rfl))
  obtain ⟨a, b, xs, ys, rfl, hq, hlen, q1⟩ := q1
  obtain ⟨u1, u2, rfl, ra, rb⟩ := vals2 r1
  obtain rfl : u1 = Value.ref a := ra
  obtain rfl : u2 = Value.ref b := rb
  have hh : X.A.handled = none := I1.ok.hd hc
  -- what is said of both kinds of arguments
  have main : ∀ (its its2 : List Value) (o1 o2 : Obj) (G1 G2 : Heap → Prop) (S1 S2 : Addr → Nat → Heap → Prop), Vals xs its → Vals ys its2 → xs.length ≤ sizeLine → a < s1.heap.objs.size → b < s1.heap.objs.size → Begins (.ref a) o1 G1 → Begins (.ref b) o2 G2 → G1 s1.heap → G2 s1.heap →
      (∀ i, i ≠ a → ∀ A : Around, A.handled = none → PySem.Draws X.prog X.w A i [i, a] its.toArray.size (fun j v => its.toArray[j]? = some v) (S1 i)) → (∀ i, i ≠ b → ∀ A : Around, A.handled = none → PySem.Draws X.prog X.w A i [i, b] its2.toArray.size (fun j v => its2.toArray[j]? = some v) (S2 i)) →
      (∀ i h, G1 h → h.get? i = some o1 → S1 i 0 h) → (∀ i h, G2 h → h.get? i = some o2 → S2 i 0 h) →
      wpAny (model X.prog X.w) X.A (call (.type "zip") [.ref a, .ref b]) (fun v s₁ => wpAny (model X.prog X.w) X.A (spliced (backTo pos (starEach [] X.env))) (fun vs s₂ => wpAny (model X.prog X.w) X.A (call (.type "tuple") (v :: vs)) (EP X pins σ Q) X.xe s₂) X.xe s₁) X.xe s1 := by
    intro its its2 o1 o2 G1 G2 S1 S2 rv rv2 hz la lb B1 B2 g1 g2 D1 D2 i1 i2
    have hl := Vals.length rv
    have hl2 := Vals.length rv2
    refine zip_begins2 B1 B2 g1 g2 fun h1 hzp hTI hTO h01 h02 hsz hk => args_nil ?_
    have hD : h1.objs.size = s1.heap.objs.size + 5 := hsz
    have nea : s1.heap.objs.size ≠ a := Nat.ne_of_gt la
    have neb : s1.heap.objs.size + 1 ≠ b := Nat.ne_of_gt (Nat.lt_succ_of_lt lb)
    have far : ∀ c k : Nat, c < s1.heap.objs.size → s1.heap.objs.size + k ≠ c := fun c k hc => by omega
    have Z := zip_sep2 (N := s1.heap.objs.size) (fp1 := [a]) (fp2 := [b]) (by simpa using la) (by simpa using lb)
    have W := PkG.wkZip (prog := X.prog) (w := X.w) (D0 := h1.objs.size) (n := min its.toArray.size its2.toArray.size) rfl Z (D1 _ nea) (D2 _ neb) (D1 _ nea X.A hh).frame (D2 _ neb X.A hh).frame (D1 _ nea X.A hh).live (D2 _ neb X.A hh).live
      (by rw [hD]; exact Nat.ne_of_gt (Nat.lt_succ_self _)) (by rw [hD]; exact Nat.ne_of_gt (Nat.add_lt_add_left (by decide) _)) (by rw [hD]; exact Nat.ne_of_gt (Nat.add_lt_add_left (by decide) _))
      (by rw [hD]; simp only [List.mem_cons, List.not_mem_nil, or_false, not_or]; exact ⟨Nat.ne_of_gt (Nat.lt_add_of_pos_right (by decide)), far a 5 la⟩) (by rw [hD]; simp only [List.mem_cons, List.not_mem_nil, or_false, not_or]; exact ⟨Nat.ne_of_gt (Nat.add_lt_add_left (by decide) _), far b 5 lb⟩)
    have hn : min its.toArray.size its2.toArray.size ≤ sizeLine := Nat.le_trans (Nat.min_le_left _ _) (by rw [List.size_toArray, ← hl]; exact hz)
    refine PkG.call_tupleG (s := { s1 with heap := h1 }) W PkG.noLen_zip hn hh ⟨i1 _ h1 (B1.keeps _ _ g1 hk) h01, i2 _ h1 (B2.keeps _ _ g2 hk) h02, hTI, Heap.lt_size hTO, .inl ⟨rfl, hzp, _, _, hTO⟩, _, hTO⟩ fun h' tk acc hk' hz' hY => ?_
    have kp : ∀ c u, s1.heap.get? c = some u → h'.get? c = some u := fun c u e => by
      have hb := Heap.lt_size e
      refine hk' c u ?_ (hk c u e)
      simp only [List.mem_cons, List.not_mem_nil, or_false, not_or]
      exact ⟨(far c 4 hb).symm, (far c 3 hb).symm, Nat.ne_of_lt hb, (far c 1 hb).symm⟩
    have kp2 : ∀ c u, s1.heap.get? c = some u → (h'.push { cls := .type "tuple", data := .seq acc }).get? c = some u := fun c u e => Heap.get?_push_of_some _ (kp c u e)
    have hge : s1.heap.objs.size ≤ h'.objs.size := by
      have q := hk' (s1.heap.objs.size + 2) _ (by simp only [List.mem_cons, List.not_mem_nil, or_false, not_or]; exact ⟨Nat.ne_of_lt (Nat.add_lt_add_left (by decide) _), Nat.ne_of_lt (Nat.add_lt_add_left (by decide) _), Nat.ne_of_gt (Nat.lt_add_of_pos_right (by decide)), Nat.ne_of_gt (Nat.add_lt_add_left (by decide) _)⟩) hTI
      exact Nat.le_of_lt (Nat.lt_of_le_of_lt (Nat.le_add_right _ _) (Heap.lt_size q))
    have htup : ObjOk X.prog X.w (upd H1 h'.objs.size (.tup (acc.toList.map PkG.bkV))) (h'.push { cls := .type "tuple", data := .seq acc }) h'.objs.size (.tup (acc.toList.map PkG.bkV)) := PkG.tup_ok hz' hn (fun j u e => let ⟨T, _, _, ev, _⟩ := hY.1 j u e; ⟨T, ev⟩)
    have I2 := I1.laid (t' := tk) kp2 hge htup
    obtain ⟨ts, H2, et, I3, N⟩ := take_ps (us := acc.toList) (k := min its.toArray.size its2.toArray.size) (f := fun j => [xs.getD j .non, ys.getD j .non]) I1 kp2 I2 hge (by rw [Array.length_toList, hz']) hY.2 fun j u e => by
      obtain ⟨T, x, y, ev, n1, n2, n3, n4, n5, hP, hP2, hT⟩ := hY.1 j u (by rw [← Array.getElem?_toList]; exact e)
      exact ⟨T, ev, Nat.le_of_lt (Nat.lt_of_le_of_lt (by rw [hD]; exact Nat.le_add_right _ _) n1), Nat.ne_of_lt (Heap.lt_size hT), _, _, Heap.get?_push_of_some _ hT, .cons (vals_getD rv hP) (.cons (vals_getD rv2 hP2) .nil)⟩
    rw [et, PkG.bkV_refs ts] at N
    have lt : ts.length = min xs.length ys.length := by
      have q := congrArg List.length et
      rw [Array.length_toList, hz', List.size_toArray, List.size_toArray, List.length_map] at q
      omega
    exact ⟨.ref h'.objs.size, H2, I3, rfl, q1 _ ts H2 lt N⟩
  rcases hq with ⟨qx, qy⟩ | ⟨qx, qy⟩
  · obtain ⟨its, rv, pl, hz⟩ := I1.list qx
    obtain ⟨its2, rv2, pl2, hz2⟩ := I1.list qy
    have t1 := pl.isList
    have t2 := pl2.isList
    exact main its its2 _ _ _ _ (fun i j h => h.IsListIter i a j ∧ h.IsList a its.toArray) (fun i j h => h.IsListIter i b j ∧ h.IsList b its2.toArray) rv rv2 hz pl.lt pl2.lt (begins_list a its.toArray) (begins_list b its2.toArray) t1 t2
      (fun i hi A hA => PySem.Draws.list hA _ a hi.symm _) (fun i hi A hA => PySem.Draws.list hA _ b hi.symm _) (fun i h g e => ⟨⟨_, e, rfl, rfl⟩, g⟩) (fun i h g e => ⟨⟨_, e, rfl, rfl⟩, g⟩)
  · obtain ⟨its, rv, pt, hz⟩ := I1.tuple qx
    obtain ⟨its2, rv2, pt2, hz2⟩ := I1.tuple qy
    have t1 : s1.heap.IsTuple a its.toArray := pt
    have t2 : s1.heap.IsTuple b its2.toArray := pt2
    have la : a < s1.heap.objs.size := by
      obtain ⟨_, e, _⟩ := t1
      exact Heap.lt_size e
    have lb : b < s1.heap.objs.size := by
      obtain ⟨_, e, _⟩ := t2
      exact Heap.lt_size e
    exact main its its2 _ _ _ _ (fun i j h => h.IsTupleIter i a j ∧ h.IsTuple a its.toArray) (fun i j h => h.IsTupleIter i b j ∧ h.IsTuple b its2.toArray) rv rv2 hz la lb (begins_tuple a its.toArray) (begins_tuple b its2.toArray) t1 t2
      (fun i hi A hA => PySem.Draws.tuple hA _ a hi.symm _) (fun i hi A hA => PySem.Draws.tuple hA _ b hi.symm _) (fun i h g e => ⟨⟨_, e, rfl, rfl⟩, g⟩) (fun i h g e => ⟨⟨_, e, rfl, rfl⟩, g⟩)
end
end Pk


set_option Elab.async false
set_option linter.all false
set_option maxRecDepth 100000
set_option maxHeartbeats 4000000
/-! Pk10: sorted and min of data, list.remove of a text, enumerate of tuples and texts. -/
namespace Pk
open PySem PySem.Spec PyProof.Rows L2 PySem.W
section
variable {X : Cx}
/-! ### sorted(xs), xs a list of data that compare -/
def rSortedD (K : PySem.W.Frag) : List V → Hp → VK → Prop := fun vs H Q => ∃ a xs ds, vs = [V.ref a] ∧ SqL K H a xs ∧ DpAll K H xs ds ∧ AllAlike ds ∧ Sortable ds ∧ (∀ d ∈ ds, d.depth ≤ 32) ∧ ds.length ≤ 90000 ∧
  ∀ ys p, (∀ R : V → PyData → Prop, (∀ b ∈ xs.zip ds, R b.1 b.2) → Paired R ys (ds.mergeSort (dataLe false id))) → H p = none → Q (.ref p) (upd H p (.lst ys))
theorem dpAll_len {K : PySem.W.Frag} {H : Hp} : ∀ {xs : List V} {ds : List PyData}, DpAll K H xs ds → xs.length = ds.length
  | _, _, .nil => rfl
  | _, _, .cons _ t => by rw [List.length_cons, List.length_cons, dpAll_len t]
theorem each_zip {K : PySem.W.Frag} {H : Hp} : ∀ {xs : List V} {ds : List PyData} {us : List Value}, DpAll K H xs ds → Vals xs us → EachIs (fun v (b : V × PyData) => RelV b.1 v ∧ Dp K H b.1 b.2) us (xs.zip ds)
  | _, _, _, .nil, .nil => .nil
  | _, _, _, .cons h t, .cons r s => .cons ⟨r, h⟩ (each_zip t s)
theorem each_split {K : PySem.W.Frag} {H : Hp} : ∀ {us : List Value} {bs : List (V × PyData)}, EachIs (fun v (b : V × PyData) => RelV b.1 v ∧ Dp K H b.1 b.2) us bs → Vals (bs.map (·.1)) us ∧ DpAll K H (bs.map (·.1)) (bs.map (·.2))
  | _, _, .nil => ⟨.nil, .nil⟩
  | _, _, .cons h t => ⟨.cons h.1 (each_split t).1, .cons h.2 (each_split t).2⟩
theorem paired_maps {R : V → PyData → Prop} : ∀ (bs : List (V × PyData)), (∀ b ∈ bs, R b.1 b.2) → Paired R (bs.map (·.1)) (bs.map (·.2))
  | [], _ => .nil
  | b :: bs, h => .cons (h b List.mem_cons_self) (paired_maps bs fun c hc => h c (List.mem_cons_of_mem _ hc))
theorem cr_sortedD (hu : X.A.units + 64 < cLine) : CallR X (.builtin "sorted") (rSortedD X.K) := by
  intro pins s σ H vs us Q I r h
  obtain ⟨a, xs, ds, rfl, hs, hd, hal, hso, hdp, hz, q⟩ := h
  obtain ⟨its, rv, hl, hz2⟩ := I.list hs
  rw [Vals.ref1 r]
  have e := each_zip hd rv
  have len := dpAll_len hd
  have m2 : (xs.zip ds).map (·.2) = ds := by rw [List.map_snd_zip (by omega)]
  have m1 : (xs.zip ds).map (·.1) = xs := by rw [List.map_fst_zip (by omega)]
  have lz : (xs.zip ds).length = ds.length := by rw [List.length_zip]; omega
  refine sorted_data (R := fun v (b : V × PyData) => RelV b.1 v ∧ Dp X.K H b.1 b.2) (enc := fun b => b.2) hl.isList e (e.mono fun v b hb => Dp.reads I b.2 b.1 v hb.2 hb.1) (by rw [m2]; exact hal) (by rw [m2]; exact hso) (by rw [lz]; exact sz_of (by omega)) (fun b hb => ?_) fun out ho eo => ?_
  · have hb2 : b.2 ∈ ds := by
      rw [← m2]
      exact List.mem_map.mpr ⟨b, hb, rfl⟩
    have q := hdp _ hb2
    omega
  · obtain ⟨ep, he'⟩ := PyProof.Rows.sortedAll_at s.heap its out.toArray
    obtain ⟨v1, v2⟩ := each_split eo
    have ms : ((xs.zip ds).mergeSort (dataLe false fun b => b.2)).map (·.2) = ds.mergeSort (dataLe false id) := by
      have z := sort_maps (r := dataLe false fun b : V × PyData => b.2) (s := dataLe false id) (fun b : V × PyData => b.2) (l := xs.zip ds) (fun a _ b _ => rfl)
      rw [m2] at z
      exact z
    have mp : (((xs.zip ds).mergeSort (dataLe false fun b => b.2)).map (·.1)).Perm xs := by
      have z := (List.mergeSort_perm (xs.zip ds) (dataLe false fun b => b.2)).map (·.1)
      rw [m1] at z
      exact z
    have hlen : (((xs.zip ds).mergeSort (dataLe false fun b => b.2)).map (·.1)).length ≤ sizeLine := by rw [mp.length_eq]; exact hz2
    exact ⟨.ref _, _, I.laid (t' := s.toks) (fun _ _ => PyProof.Rows.sortedAll_old) (Nat.le_succ _) (show ObjOk X.prog X.w _ _ _ (.lst _) from ⟨hlen, out, ep, v1, he'⟩), rfl, q _ _ (fun R hR => by
      rw [← ms]
      exact paired_maps _ fun b hb => hR b ((List.mergeSort_perm (xs.zip ds) _).mem_iff.mp hb)) (I.hok.fresh (Nat.le_succ _))⟩
/-! ### min(x, y) of data that compare -/
def rMinD (K : PySem.W.Frag) : List V → Hp → VK → Prop := fun vs H Q => ∃ x y d e, vs = [x, y] ∧ Dp K H x d ∧ Dp K H y e ∧ alike d e = true ∧ alike d d = true ∧ alike e e = true ∧ alike e d = true ∧ d ≠ .none ∧ e ≠ .none ∧ d.depth ≤ 32 ∧ e.depth ≤ 32 ∧
  Q (if dataLt e d = true then y else x) H
section
variable {prog : Program} {w : World} {A : Around} {E : Value → Shared → Prop} {s : Shared}
theorem min_two {a b : Value} {d e : PyData} {as bs : List Addr} {Q : Value → Shared → Prop} (hh : A.handled = none) (ra : Reads s.heap a d as) (rb : Reads s.heap b e bs) (hal : AlikeAll [d, e]) (hu : A.units + 1 + PyData.depthAll [d, e] < cLine)
    (hQ : ∀ h' tk, (∀ c o, s.heap.get? c = some o → h'.get? c = some o) → Q (if dataLt e d = true then b else a) { s with heap := h', toks := tk }) : wpAny (model prog w) A (call (.builtin "min") [a, b]) Q E s := by
  have hname : (toString "min" ++ toString ".loop" : String) = "min.loop" := by decide
  refine call_function_tree F.kind_min F.plain_min F.entry_min (F.args_min2 _ _) ?_
  show wpAny _ A.in1 (Builtin.Builtins.bindParams "min" ["key", "default"] 0 ⟨[], []⟩ >>= fun _ => _) _ _ s
  refine wpAny_bind (wpAny_of_eq (show Builtin.Builtins.bindParams "min" ["key", "default"] 0 ⟨[], []⟩ = pure [none, none] from rfl) ?_)
  show wpAny _ A.in1 (newTuple [a, b] >>= fun _ => _) _ _ s
  have hT : (s.heap.push { cls := .type "tuple", data := .seq #[a, b] }).get? s.heap.objs.size = some { cls := .type "tuple", data := .seq #[a, b] } := Heap.get?_push_size _ rfl
  have kT : ∀ c o, s.heap.get? c = some o → (s.heap.push { cls := .type "tuple", data := .seq #[a, b] }).get? c = some o := fun c o q => Heap.get?_push_of_some _ q
  refine wpAny_bind (wpAny_newObj_type ?_)
  have ht : ({ s with heap := s.heap.push { cls := .type "tuple", data := .seq #[a, b] } } : Shared).heap.IsTuple s.heap.objs.size #[a, b] := ⟨_, hT, rfl, _, rfl⟩
  refine wpAny_bind (iter_tupleW (A := A.in1) (s := { s with heap := s.heap.push { cls := .type "tuple", data := .seq #[a, b] } }) hh ht fun s₂ e2 W st hfp hw hk => ?_)
  refine wpAny_bind (wpAny_newObj_type ?_)
  have hr : ReadsAll (s.heap.push { cls := .type "tuple", data := .seq #[a, b] }) (#[a, b] : Array Value).toList [d, e] (as ++ (bs ++ [])) := .cons (reads_keeps kT ra) (.cons (reads_keeps kT rb) .nil)
  have hSf : s₂.heap.objs.size ∉ [(s.heap.push { cls := .type "tuple", data := .seq #[a, b] }).objs.size, s.heap.objs.size] := fun hm => Nat.lt_irrefl _ (hfp _ hm)
  have hS0 : (s.heap.push { cls := .type "tuple", data := .seq #[a, b] }).get? s₂.heap.objs.size = none := by
    cases q : (s.heap.push { cls := .type "tuple", data := .seq #[a, b] }).get? s₂.heap.objs.size with
    | none => rfl
    | some o => exact absurd (Heap.lt_size (hk _ o q)) (Nat.lt_irrefl _)
  rw [hname]
  refine wpAny_pure ⟨plainId_quiet F.plain_min_loop _, codeAny_min_loop_firstH (n := 2) W (s.heap.push { cls := .type "tuple", data := .seq #[a, b] }) hw _ (cmpIn_lt (A := A.in1) (s := { s with heap := s.heap.push { cls := .type "tuple", data := .seq #[a, b] } }) hr hal (by show A.units + 1 + _ < _; exact hu)) s₂.heap.objs.size hSf hS0 _ (by decide)
    (fun c o q => Heap.get?_push_of_some _ (hk c o q)) (W.frame 0 s₂ _ s₂.toks st (Nat.le_refl _) fun c _ o q => Heap.get?_push_of_some _ q) (Heap.get?_push_size _ rfl) fun v s' hP hm => ?_⟩
  obtain ⟨h', tk, rfl, hk'⟩ := moved_old (s := { s with heap := s.heap.push { cls := .type "tuple", data := .seq #[a, b] } }) e2 rfl (Moved.drop_new (tk := s₂.toks) hm (Nat.le_refl _))
  have ev : v = if dataLt e d = true then b else a := by
    have hP' : (#[a, b] : Array Value)[argBest (fun i j => dataLt ([d, e].getD i .none) ([d, e].getD j .none)) 1]? = some v := hP
    have e3 : argBest (fun i j => dataLt ([d, e].getD i .none) ([d, e].getD j .none)) 1 = if dataLt e d = true then 1 else 0 := rfl
    rw [e3] at hP'
    split at hP'
    · rename_i c
      rw [if_pos c]
      exact (Option.some.inj hP').symm
    · rename_i c
      rw [if_neg c]
      exact (Option.some.inj hP').symm
  rw [ev]
  exact hQ h' tk fun c o q => hk' c o (kT c o q)
end
theorem cr_minD (hc : X.calm = true) (hu : X.A.units + 64 < cLine) : CallR X (.builtin "min") (rMinD X.K) := by
  intro pins s σ H vs us Q I r h
  obtain ⟨x, y, d, e, rfl, hx, hy, a1, a2, a3, a4, n1, n2, d1, d2, q⟩ := h
  obtain ⟨u1, u2, rfl, r1, r2⟩ := vals2 r
  obtain ⟨as, ra⟩ := Dp.reads I d x u1 hx r1
  obtain ⟨bs, rb⟩ := Dp.reads I e y u2 hy r2
  refine min_two (I.ok.hd hc) ra rb ⟨fun c hc c' hc' => ?_, fun c hc => ?_⟩ ?_ fun h' tk k => ?_
  · simp only [List.mem_cons, List.not_mem_nil, or_false] at hc hc'
    rcases hc with rfl | rfl <;> rcases hc' with rfl | rfl <;> assumption
  · simp only [List.mem_cons, List.not_mem_nil, or_false] at hc
    rcases hc with rfl | rfl <;> assumption
  · have q : PyData.depthAll [d, e] ≤ 40 := by
      simp only [PyData.depthAll]
      omega
    omega
  · refine ⟨_, H, I.kept k, ?_, q⟩
    split
    · exact r2
    · exact r1
/-! ### list.remove of a text -/
def rRemS : V → List V → Hp → VK → Prop := fun x xs H Q => ∃ (l : Addr) (ns : List Str) (k : Str) (j : Nat), x = .ref l ∧ xs = [.str k] ∧ H l = some (.lst (ns.map V.str)) ∧ ns[j]? = some k ∧ (∀ m : Nat, m < j → ns[m]? ≠ some k) ∧ Q .non (upd H l (.lst ((ns.eraseIdx j).map V.str)))
def eqs (k : Str) (v : Value) : Bool := match v with
  | .str n _ => n.cps.toList == k.cps.toList
  | _ => false
theorem eqs_gives {k : Str} {t : Tok} {us : List Value} {ns : List Str} (h : StrsAre us ns) : ∀ y ∈ us, MeetsSeq.EqGives y (.str k t) (eqs k y) := fun y hy => by
  obtain ⟨x, u, rfl⟩ := h.all y hy
  exact SeqRoads2.EqGives.str x k u t
theorem cps_inj {a b : Str} (h : a.cps.toList = b.cps.toList) : a = b := str_of_cps h
theorem erase_mapS : ∀ (l : List Str) (j : Nat), (l.map V.str).eraseIdx j = (l.eraseIdx j).map V.str
  | [], j => by simp
  | a :: r, 0 => by simp
  | a :: r, j + 1 => by
    have ih := erase_mapS r j
    simp [ih]
theorem mt_removeS : MtM X "list.remove" rRemS := by
  intro pins s σ H x xs v us Q I rx rxs h
  obtain ⟨l, ns, k, j, rfl, rfl, hH, hj, hno, q⟩ := h
  cases rx
  obtain ⟨u, rfl, ru⟩ := rxs.one
  obtain ⟨t, rfl⟩ := ru
  obtain ⟨z, its, n, r, hl, e⟩ := I.lstM hH
  have hi : StrsAre its ns := r.strs
  rw [List.length_map] at hl z
  have at_ : ∀ (m : Nat) (hm : m < its.toArray.size), ∃ y, ns[m]? = some y ∧ ∃ u, its.toArray[m] = .str y u := fun m hm => by
    have hm' : m < ns.length := by rw [List.size_toArray] at hm; omega
    obtain ⟨u, e1⟩ := SS.strs_at hi m (its.toArray[m]) (by rw [← List.getElem?_toArray, Array.getElem?_eq_getElem hm])
    refine ⟨ns[m], List.getElem?_eq_getElem hm', u, ?_⟩
    rw [e1, List.getD_eq_getElem?_getD, List.getElem?_eq_getElem hm'] <;> rfl
  have hjl : j < its.toArray.size := by
    have hjn : j < ns.length := (List.getElem?_eq_some_iff.mp hj).1
    rw [List.size_toArray]
    omega
  refine call_meets PySem.F.slot_list_remove ⟨_, e, rfl⟩ PySem.F.entry_list_remove (PySem.F.args_list_remove_2 _ _)
    (MeetsSeq.list_remove l its.toArray n (.str k t) (eqs k) (fun y hy => eqs_gives hi y (by simpa using hy)) j hjl ?_ ?_ (by rw [List.size_toArray]; omega)) ⟨e, ?_⟩
  · obtain ⟨y, e1, u, e2⟩ := at_ j hjl
    rw [hj] at e1
    rw [e2, ← Option.some.inj e1]
    exact beq_self_eq_true _
  · intro m hm hmj
    obtain ⟨y, e1, u, e2⟩ := at_ m hm
    rw [e2]
    exact beq_eq_false_iff_ne.mpr fun e3 => hno m hmj (by rw [e1, cps_inj e3])
  · have rr := r.eraseIdx j
    rw [erase_mapS] at rr
    refine ⟨.non, _, I.lset (its' := its.eraseIdx j) (t' := s.toks) hH e ?_ rr ?_, rfl, q⟩
    · show its.toArray.eraseIdxIfInBounds j = (its.eraseIdx j).toArray
      rw [List.eraseIdxIfInBounds_toArray]
    · have z2 := len_erase ns j
      rw [List.length_map]
      omega
end
end Pk


set_option Elab.async false
set_option linter.all false
set_option maxRecDepth 100000
set_option maxHeartbeats 4000000
/-! Pk11: enumerate of a tuple, of a text: walks. -/
namespace Pk
open PySem PySem.Spec PyProof.Rows L2 PySem.W
/-- the tuple at a, the text x: each item with its place, in a new pair -/
def IteT (K : PySem.W.Frag) (a : Addr) : It :=
  ⟨fun i H => ∃ xs x, SqT K H a xs ∧ xs[i]? = some x, fun i H v H' => ∃ T x, v = .ref T ∧ H T = none ∧ H' = upd H T (.tup [.int (i : Nat), x]) ∧ ∀ xs, SqT K H a xs → xs[i]? = some x, fun i H => ∃ xs : List V, SqT K H a xs ∧ xs.length ≤ i⟩
def IteS (x : Str) : It :=
  ⟨fun i _ => i < x.cps.size, fun i H v H' => ∃ T c, v = .ref T ∧ H T = none ∧ H' = upd H T (.tup [.int (i : Nat), .str ⟨#[c]⟩]) ∧ x.cps[i]? = some c, fun i _ => x.cps.size ≤ i⟩
section
variable {X : Cx} {pins : List (Addr × Obj)} {σ : L2.St} {H : Hp} {s : Shared} {h' h'' : Heap} {tk : Nat} {it e : Addr}
/-- after the pair has been handed out -/
theorem enum_out {i : Nat} {x : V} {u : Value} {t0 : Tok} (I : Inv X pins σ H s) (hf : ∀ b ∈ [e, it], FpOk X pins H b) (rx : RelV x u) (hT : h'.get? s.heap.objs.size = some (PkG.pairO (.int (i : Int) t0) u)) (hel : e < s.heap.objs.size) (hil : it < s.heap.objs.size)
    (hk : ∀ b o, b ≠ e → b ≠ it → s.heap.get? b = some o → h'.get? b = some o) (sb : Heap.SameBut e h' h'') :
    Inv X pins σ (upd H s.heap.objs.size (.tup [.int (i : Nat), x])) { s with heap := h'', toks := tk } ∧ H s.heap.objs.size = none ∧ ∀ b ∈ [e, it], upd H s.heap.objs.size (.tup [.int (i : Nat), x]) b = none := by
  have hn : H s.heap.objs.size = none := I.hok.fresh (Nat.le_refl _)
  refine ⟨I.turnedNew (ch := [e, it]) (fun b ob hb q => (sb.2 b (fun z => hb (by simp [z]))).trans (hk b ob (fun z => hb (by simp [z])) (fun z => hb (by simp [z])) q)) hf (Nat.le_refl _) ⟨Nat.le_trans (by decide : 2 ≤ 100000) (by decide), [.int i t0, u], .cons ⟨_, rfl⟩ (.cons rx .nil), ⟨_, (sb.2 _ (Nat.ne_of_gt hel)).trans hT, rfl, _, rfl⟩⟩, hn, fun b hb => ?_⟩
  have hb' : b < s.heap.objs.size := by
    have z : b = e ∨ b = it := by simpa using hb
    rcases z with z | z
    · rw [z]; exact hel
    · rw [z]; exact hil
  rw [upd_ne (Nat.ne_of_lt hb')]
  exact (hf b hb).1
end
end Pk
namespace PkG
open PySem PySem.W PyProof.Rows
theorem nextOf_text_end {prog : Program} {w : World} {A : Around} {E : Value → Shared → Prop} {s : Shared} {it : Addr} {x : Str} {t : Tok} {i : Nat} {Q : Value → Shared → Prop} (hh : A.handled = none) (hit : s.heap.IsStrIter it (strIterType x) x t i) (hx : x.cps[i]? = none)
    (hE : ∀ h' e, Heap.ExtBut it s.heap h' → (∃ o, h'.get? e = some o ∧ o.cls = .type "StopIteration") → E (.ref e) { s with heap := h' }) : wpAny (model prog w) A (Builtin.SmallTypes.nextOf (.ref it)) Q E s := by
  unfold strIterType at hit
  split at hit
  · exact wpAny_nextOf_ascii_end hh hit hx hE
  · exact wpAny_nextOf_wide_end hh hit hx hE
end PkG
namespace Pk
open PySem PySem.Spec PyProof.Rows L2 PySem.W

theorem turn_enumT {P : Program} {w : World} {K : PySem.W.Frag} {elts : List Expr} {kk : Nat} {tpos : Pos} (a : Addr) (e it : Addr) :
    Turn P w K (.Tuple elts kk tpos) (IteT K a) [e, it] e (fun i h => (∃ old, IsEnum h e it ((i : Nat) : Int) old) ∧ h.IsTupleIter it a i ∧ e ≠ it) where
  mem := by simp
  obj := fun i h st b hb => by
    obtain ⟨⟨old, he⟩, ⟨o, ho, hc, hd⟩, _⟩ := st
    have z : b = e ∨ b = it := by simpa using hb
    rcases z with z | z
    · rw [z]; exact ⟨_, he, fun v q => nomatch q⟩
    · rw [z]; exact ⟨o, ho, fun v q => by rw [hd] at q; cases q⟩
  keep := fun i h h' st k => let ⟨⟨old, he⟩, hi, hne⟩ := st; ⟨⟨old, k e (by simp) _ he⟩, hi.at fun o q => k it (by simp) o q, hne⟩
  item := by
    intro X hP hw hK hc i pins s σ H E I hf st hg
    subst hP hw hK
    obtain ⟨⟨old, he⟩, hit, hne⟩ := st
    have hel : e < s.heap.objs.size := Heap.lt_size he
    have hil : it < s.heap.objs.size := by
      obtain ⟨_, q, _⟩ := hit
      exact Heap.lt_size q
    obtain ⟨xs, x, hq, hx⟩ := hg
    obtain ⟨its, rv, p, hz⟩ := I.tuple hq
    obtain ⟨u, hu, ru⟩ := rv.get hx
    have ht : s.heap.IsTuple a its.toArray := p
    have hai : a ≠ it := fun z => by
      obtain ⟨o1, q1, c1, _⟩ := ht
      obtain ⟨o2, q2, c2, _⟩ := hit
      rw [z, q2] at q1
      rw [Option.some.inj q1, c1] at c2
      exact absurd (Value.type.inj c2) (by decide)
    have hae : e ≠ a := fun z => by
      obtain ⟨o1, q1, c1, _⟩ := ht
      rw [← z, he] at q1
      rw [← Option.some.inj q1] at c1
      exact absurd (Value.type.inj c1) (by decide)
    refine wpAny_pyNext_enum_itemD (n := its.toArray.size) (PySem.Draws.tuple (prog := X.prog) (w := X.w) (A := X.A.in1) (I.ok.hd hc) it a hai its.toArray) he ⟨hit, ht⟩ (by rw [List.size_toArray]; exact (List.getElem?_eq_some_iff.mp hu).1) hne (by simp [hne, hae]) fun u' h' tk hP ho hit' hT hsz hk => ?_
    have eu : u' = u := by
      have q : its[i]? = some u' := by simpa using hP
      rw [hu] at q
      exact (Option.some.inj q).symm
    subst eu
    refine ⟨_, rfl, wpAny_letOwnedTupleGo_enum (s := { s with heap := h', toks := tk + 1 }) ho fun h'' he' sb => ?_⟩
    obtain ⟨I1, hn, hfr⟩ := enum_out (tk := tk + 1) I hf ru hT hel hil hk sb
    refine ⟨.ref s.heap.objs.size, _, I1, rfl, ⟨_, x, rfl, hn, rfl, fun ys hy => by rw [I.tuple_inj hy hq]; exact hx⟩, ⟨⟨u', ?_⟩, hit'.1.at fun o q => (sb.2 it (Ne.symm hne)).trans q, hne⟩, hfr⟩
    have e1 : ((i + 1 : Nat) : Int) = (i : Int) + 1 := by omega
    rw [e1]
    exact he'
  done := by
    intro X hP hw hK hc i pins s σ H E I hf st hg
    subst hP hw hK
    obtain ⟨⟨old, he⟩, hit, hne⟩ := st
    have hh : X.A.handled = none := I.ok.hd hc
    obtain ⟨f0, f1, f2, f3, f4, f5⟩ := hf it (by simp)
    obtain ⟨xs, hq, hx⟩ := hg
    obtain ⟨its, rv, p, hz⟩ := I.tuple hq
    have ht : s.heap.IsTuple a its.toArray := p
    have hl := rv.length
    have hTy : s.TypeIs (.ref e) "enumerate" := ⟨_, he, rfl⟩
    unfold pyNext
    refine wpAny_bind (wpAny_attempt (wpAny_callSpecial?_slot (name := Str.ofString "__next__") hTy F.slot_enumerate_next (wpAny_call_entry F.slot_enumerate_next hTy F.entry_enumerate_next ?_ (F.args_enumerate_next_1 _))))
    show wpAny _ X.A.in1 (field (.ref e) 2 >>= fun _ => _) _ _ _
    refine wpAny_bind (wpAny_field he rfl (x := .ref it) rfl ?_)
    refine wpAny_bind (wpAny_nextOf_tuple_end (A := X.A.in1) hh hit ht (by simp; omega) fun h' x he' hx' => ?_)
    obtain ⟨o, ho, hc'⟩ := hx'
    exact wpAny_bind (wpAny_isInstance (T := "StopIteration") (b := true) ⟨o, ho, hc'⟩ isSubtype_stop (wpAny_pure ⟨rfl, I.turned (t' := s.toks) (fun b o hb q => he' b o hb q) f0 f1 f3 f4 f5⟩))
  self := fun A i s Q E st h => let ⟨⟨_, he⟩, _⟩ := st; wpAny_pyIter_enum he h

theorem turn_enumS {P : Program} {w : World} {K : PySem.W.Frag} {elts : List Expr} {kk : Nat} {tpos : Pos} (x : Str) (t : Tok) (e it : Addr) :
    Turn P w K (.Tuple elts kk tpos) (IteS x) [e, it] e (fun i h => (∃ old, IsEnum h e it ((i : Nat) : Int) old) ∧ h.IsStrIter it (strIterType x) x t i ∧ e ≠ it) where
  mem := by simp
  obj := fun i h st b hb => by
    obtain ⟨⟨old, he⟩, ⟨o, ho, hc, hd⟩, _⟩ := st
    have z : b = e ∨ b = it := by simpa using hb
    rcases z with z | z
    · rw [z]; exact ⟨_, he, fun v q => nomatch q⟩
    · rw [z]; exact ⟨o, ho, fun v q => by rw [hd] at q; cases q⟩
  keep := fun i h h' st k => let ⟨⟨old, he⟩, hi, hne⟩ := st; ⟨⟨old, k e (by simp) _ he⟩, (by obtain ⟨o, ho, r⟩ := hi; exact ⟨o, k it (by simp) o ho, r⟩), hne⟩
  item := by
    intro X hP hw hK hc i pins s σ H E I hf st hg
    subst hP hw hK
    obtain ⟨⟨old, he⟩, hit, hne⟩ := st
    have hel : e < s.heap.objs.size := Heap.lt_size he
    have hil : it < s.heap.objs.size := by
      obtain ⟨_, q, _⟩ := hit
      exact Heap.lt_size q
    have hlt : i < x.cps.size := hg
    refine wpAny_pyNext_enum_itemD (n := x.cps.size) (PySem.Draws.text (prog := X.prog) (w := X.w) (A := X.A.in1) (I.ok.hd hc) it x t) he hit hlt hne (by simp [hne]) fun u' h' tk hP ho hit' hT hsz hk => ?_
    obtain ⟨c, u, e0, rfl⟩ := hP
    refine ⟨_, rfl, wpAny_letOwnedTupleGo_enum (s := { s with heap := h', toks := tk + 1 }) ho fun h'' he' sb => ?_⟩
    obtain ⟨I1, hn, hfr⟩ := enum_out (x := .str ⟨#[c]⟩) (tk := tk + 1) I hf ⟨u, rfl⟩ hT hel hil hk sb
    refine ⟨.ref s.heap.objs.size, _, I1, rfl, ⟨_, c, rfl, hn, rfl, e0⟩, ⟨⟨.str ⟨#[c]⟩ u, ?_⟩, ?_, hne⟩, hfr⟩
    · have e1 : ((i + 1 : Nat) : Int) = (i : Int) + 1 := by omega
      rw [e1]
      exact he'
    · obtain ⟨o, ho, r⟩ := hit'
      exact ⟨o, (sb.2 it (Ne.symm hne)).trans ho, r⟩
  done := by
    intro X hP hw hK hc i pins s σ H E I hf st hg
    subst hP hw hK
    obtain ⟨⟨old, he⟩, hit, hne⟩ := st
    have hh : X.A.handled = none := I.ok.hd hc
    obtain ⟨f0, f1, f2, f3, f4, f5⟩ := hf it (by simp)
    have hle : x.cps.size ≤ i := hg
    have hTy : s.TypeIs (.ref e) "enumerate" := ⟨_, he, rfl⟩
    unfold pyNext
    refine wpAny_bind (wpAny_attempt (wpAny_callSpecial?_slot (name := Str.ofString "__next__") hTy F.slot_enumerate_next (wpAny_call_entry F.slot_enumerate_next hTy F.entry_enumerate_next ?_ (F.args_enumerate_next_1 _))))
    show wpAny _ X.A.in1 (field (.ref e) 2 >>= fun _ => _) _ _ _
    refine wpAny_bind (wpAny_field he rfl (x := .ref it) rfl ?_)
    refine wpAny_bind (PkG.nextOf_text_end (A := X.A.in1) hh hit (by simp [hle]) fun h' x he' hx' => ?_)
    obtain ⟨o, ho, hc'⟩ := hx'
    exact wpAny_bind (wpAny_isInstance (T := "StopIteration") (b := true) ⟨o, ho, hc'⟩ isSubtype_stop (wpAny_pure ⟨rfl, I.turned (t' := s.toks) (fun b o hb q => he' b o hb q) f0 f1 f3 f4 f5⟩))
  self := fun A i s Q E st h => let ⟨⟨_, he⟩, _⟩ := st; wpAny_pyIter_enum he h

def iEnumT (K : PySem.W.Frag) (ta : TA) : TI := fun σ H R => ta σ H fun vs H1 => ∃ a xs, vs = [.ref a] ∧ SqT K H1 a xs ∧ R (IteT K a) H1
def iEnumS (ta : TA) : TI := fun σ H R => ta σ H fun vs H1 => ∃ x, vs = [.str x] ∧ R (IteS x) H1
section
variable {X : Cx} {e : Expr} {ta : TA} {p pos tpos : Pos} {elts : List Expr} {kk : Nat}
theorem fp_two {pins : List (Addr × Obj)} {σ : L2.St} {H : Hp} {s : Shared} (I : Inv X pins σ H s) : ∀ b ∈ [s.heap.objs.size + 1, s.heap.objs.size], FpOk X pins H b := fun b hb => by
  have z : b = s.heap.objs.size + 1 ∨ b = s.heap.objs.size := by simpa using hb
  have hle : s.heap.objs.size ≤ b := by
    rcases z with z | z
    · rw [z]; exact Nat.le_add_right _ _
    · rw [z]; exact Nat.le_refl _
  exact I.fpOk hle (I.hok.fresh hle)
theorem pi_enumT (hg : Gl X "enumerate") (hm : X.mg "enumerate" = none) (ha : PA X [e] ta) (hs : starEach [e] X.env = [(false, eval e X.env)] := by rfl) : PI X (.Tuple elts kk tpos) (.Call (.Name "enumerate" p) [e] [] pos) (iEnumT X.K ta) := by
  refine ⟨fun pins s σ H R I h => ?_⟩
  refine Call_ (ld_blt I hg hm boot_enumerate (PyProof.Rows.callWith_type1 (thn (ha.run pos pins s σ H _ I h) fun us s1 ⟨vs, H1, I1, r1, q1⟩ => ?_) hs rfl))
  obtain ⟨a, xs, rfl, hq, q⟩ := q1
  obtain rfl := Vals.ref1 r1
  obtain ⟨its, rv, p', hz⟩ := I1.tuple hq
  refine PkG.enum_call1 (begins_tuple a its.toArray) p' fun h' he h0 hsz hk => wpAny_pyIter_enum he ?_
  exact ⟨s1.heap.objs.size + 1, [s1.heap.objs.size + 1, s1.heap.objs.size], _, _, H1, rfl, I1.kept (t' := s1.toks) hk, turn_enumT a (s1.heap.objs.size + 1) s1.heap.objs.size, ⟨⟨.none, he⟩, ⟨_, h0, rfl, rfl⟩, Nat.succ_ne_self _⟩, fp_two I1, q⟩
theorem pi_enumS (hg : Gl X "enumerate") (hm : X.mg "enumerate" = none) (ha : PA X [e] ta) (hs : starEach [e] X.env = [(false, eval e X.env)] := by rfl) : PI X (.Tuple elts kk tpos) (.Call (.Name "enumerate" p) [e] [] pos) (iEnumS ta) := by
  refine ⟨fun pins s σ H R I h => ?_⟩
  refine Call_ (ld_blt I hg hm boot_enumerate (PyProof.Rows.callWith_type1 (thn (ha.run pos pins s σ H _ I h) fun us s1 ⟨vs, H1, I1, r1, q1⟩ => ?_) hs rfl))
  obtain ⟨x, rfl, q⟩ := q1
  obtain ⟨u, rfl, t, rfl⟩ := vals1 r1
  refine PkG.enum_call1 (begins_text x t) True.intro fun h' he h0 hsz hk => wpAny_pyIter_enum he ?_
  exact ⟨s1.heap.objs.size + 1, [s1.heap.objs.size + 1, s1.heap.objs.size], _, _, H1, rfl, I1.kept (t' := s1.toks) hk, turn_enumS x t (s1.heap.objs.size + 1) s1.heap.objs.size, ⟨⟨.none, he⟩, ⟨_, h0, rfl, rfl⟩, Nat.succ_ne_self _⟩, fp_two I1, q⟩
theorem kp_enumT {K : PySem.W.Frag} {tg i : Expr} (q : X.K = K) (h : PI X tg i (iEnumT X.K ta)) : PI X tg i (iEnumT K ta) := by subst q; exact h
end
end Pk


set_option Elab.async false
set_option linter.all false
set_option maxRecDepth 100000
set_option maxHeartbeats 4000000
/-! Pk12: sets, sorts, pairs, isinstance, texts: what they give over a base. -/
namespace Pk
open PySem PySem.Spec PyProof.Rows L2 PySem.W

/-! ### the order of texts -/
def lts (a b : Str) : Bool := ltCps a.cps.toList b.cps.toList
theorem ltc_irr : ∀ a : List Nat, ltCps a a = false
  | [] => rfl
  | a :: r => by
    unfold ltCps
    rw [ltc_irr r]
    simp
theorem ltc_tri : ∀ a b : List Nat, ltCps a b = false → ltCps b a = false → a = b
  | [], [], _, _ => rfl
  | [], _ :: _, h, _ => by simp [ltCps] at h
  | _ :: _, [], _, h => by simp [ltCps] at h
  | a :: r, b :: t, h1, h2 => by
    unfold ltCps at h1 h2
    rw [Bool.or_eq_false_iff] at h1 h2
    have e : a = b := by
      have q1 := h1.1
      have q2 := h2.1
      simp at q1 q2
      omega
    subst e
    rw [ltc_tri r t (by simpa using h1.2) (by simpa using h2.2)]
theorem ltc_tr : ∀ a b c : List Nat, ltCps a b = true → ltCps b c = true → ltCps a c = true
  | [], [], _, h, _ => by simp [ltCps] at h
  | [], _ :: _, [], _, h => by simp [ltCps] at h
  | [], _ :: _, _ :: _, _, _ => rfl
  | _ :: _, [], _, h, _ => by simp [ltCps] at h
  | _ :: _, _ :: _, [], _, h => by simp [ltCps] at h
  | a :: r, b :: t, c :: u, h1, h2 => by
    unfold ltCps at h1 h2 ⊢
    rw [Bool.or_eq_true, Bool.and_eq_true] at h1 h2 ⊢
    have q1 : a < b ∨ (a = b ∧ ltCps r t = true) := by simpa using h1
    have q2 : b < c ∨ (b = c ∧ ltCps t u = true) := by simpa using h2
    have q3 : a < c ∨ (a = c ∧ ltCps r u = true) := by
      rcases q1 with q1 | ⟨rfl, q1⟩
      · rcases q2 with q2 | ⟨rfl, q2⟩
        · exact .inl (by omega)
        · exact .inl q1
      · rcases q2 with q2 | ⟨rfl, q2⟩
        · exact .inl q2
        · exact .inr ⟨rfl, ltc_tr r t u q1 q2⟩
    simpa using q3
theorem lts_irr (a : Str) : lts a a = false := ltc_irr _
theorem lts_tri {a b : Str} (h1 : lts a b = false) (h2 : lts b a = false) : a = b := str_of_cps (ltc_tri _ _ h1 h2)
theorem lts_tr {a b c : Str} (h1 : lts a b = true) (h2 : lts b c = true) : lts a c = true := ltc_tr _ _ _ h1 h2
theorem lts_asym {a b : Str} (h : lts a b = true) : lts b a = false := by
  cases q : lts b a with
  | false => rfl
  | true =>
    have z := lts_tr h q
    rw [lts_irr] at z
    cases z
def leS (a b : Str) : Bool := !lts b a
theorem leS_tr (a b c : Str) (h1 : leS a b = true) (h2 : leS b c = true) : leS a c = true := by
  unfold leS at *
  rw [Bool.not_eq_true'] at *
  cases q : lts c a with
  | false => rfl
  | true =>
    cases r : lts a b with
    | true =>
      rw [lts_tr q r] at h2
      cases h2
    | false =>
      have e := lts_tri r h1
      subst e
      rw [q] at h2
      cases h2
theorem leS_tot (a b : Str) : (leS a b || leS b a) = true := by
  unfold leS
  cases q : lts b a with
  | false => rfl
  | true => rw [lts_asym q] <;> rfl
def sortS (xs : List Str) : List Str := xs.mergeSort leS
/-- two sorted lists of the same texts are one -/
theorem sorted_one : ∀ (l m : List Str), l.Perm m → l.Pairwise (fun a b => leS a b = true) → m.Pairwise (fun a b => leS a b = true) → l = m
  | [], m, p, _, _ => by rw [List.nil_perm.mp p]
  | x :: l, [], p, _, _ => by
    have q := p.length_eq
    simp at q
  | x :: l, y :: m, p, h1, h2 => by
    obtain ⟨a1, a2⟩ := List.pairwise_cons.mp h1
    obtain ⟨b1, b2⟩ := List.pairwise_cons.mp h2
    have e : x = y := by
      have hy : y ∈ x :: l := p.mem_iff.mpr List.mem_cons_self
      have hx : x ∈ y :: m := p.mem_iff.mp List.mem_cons_self
      rcases List.mem_cons.mp hy with z | z
      · exact z.symm
      · rcases List.mem_cons.mp hx with u | u
        · exact u
        · have q1 := a1 y z
          have q2 := b1 x u
          unfold leS at q1 q2
          rw [Bool.not_eq_true'] at q1 q2
          exact lts_tri q2 q1
    subst e
    rw [sorted_one l m (p.cons_inv) a2 b2]
theorem sortS_pw (xs : List Str) : (sortS xs).Pairwise (fun a b => leS a b = true) := List.pairwise_mergeSort leS_tr leS_tot xs
theorem sortS_perm (xs : List Str) : (sortS xs).Perm xs := List.mergeSort_perm xs leS
theorem rising_pw : ∀ (l : List Str) (p : Str), risingS p l = true → (p :: l).Pairwise (fun a b => leS a b = true)
  | [], p, _ => List.pairwise_singleton _ _
  | x :: r, p, h => by
    unfold risingS at h
    rw [Bool.and_eq_true] at h
    have ih := rising_pw r x h.2
    refine List.pairwise_cons.mpr ⟨fun y hy => ?_, ih⟩
    have px : leS p x = true := h.1
    rcases List.mem_cons.mp hy with rfl | hy
    · exact px
    · exact leS_tr p x y px ((List.pairwise_cons.mp ih).1 y hy)
theorem sortS_is {xs ys : List Str} (p : ys.Perm xs) (h : sortedS ys = true) : ys = sortS xs := by
  refine sorted_one ys (sortS xs) (p.trans (sortS_perm xs).symm) ?_ (sortS_pw xs)
  cases ys with
  | nil => exact List.Pairwise.nil
  | cons y r => exact rising_pw r y h
def setOf (xs : List Str) : List Str := sortS (gath xs)

/-! ### sets -/
/-- the set of these texts -/
def STx (P : Program) (w : World) (xs : List Str) : Pr := ⟨fun v B => ∃ a, v = .ref a ∧ B a = some (TxO P w a (gath xs)), fun _ _ _ e ⟨a, h1, h2⟩ => ⟨a, h1, e _ _ h2⟩⟩
def STi (w : World) (ns : List Int) : Pr := ⟨fun v B => ∃ a c, v = .ref a ∧ c ≤ ns.length ∧ B a = some (SetO w a (fun j => decide (j ∈ ns)) c), fun _ _ _ e ⟨a, c, h1, h2, h3⟩ => ⟨a, c, h1, h2, e _ _ h3⟩⟩
section
variable {w : Wd} {n m : Nat} {K : PySem.W.Frag} {P : Program} {wo : World} {σ : L2.St} {B : Hp} {te tb : TE} {ta : TA} {Ps Rs : List Pr}
theorem Go.newF {α : Type} {f : Addr → α} {o : Addr → HO} {R : α → Hp → Prop} (h : ∀ p, B p = none → R (f p) (upd B p (o p))) : Go w n n (fun H Q => ∀ p, H p = none → Q (f p) (upd H p (o p))) B R := fun H c Q q p hp =>
  Go.newO (w := w) (n := n) (B := B) (f := fun a => a) (o := o p) (P := fun a B' => a = p → R (f p) B') (fun p' hp' e => by subst e; exact h p' hp') H c (fun a H' => a = p → Q (f p) H') (fun a B' H' g c' hv e => q _ B' H' g c' (hv e)) p hp rfl
theorem one_of {vs : List V} {P1 : Pr} (h : PsAt vs [P1] B) : ∃ v, vs = [v] ∧ P1.p v B := by
  cases h with
  | cons r t =>
    cases t
    exact ⟨_, rfl, r⟩
theorem two_at {vs : List V} {P1 P2 : Pr} (h : PsAt vs [P1, P2] B) : ∃ v u, vs = [v, u] ∧ P1.p v B ∧ P2.p u B := by
  cases h with
  | cons r t =>
    obtain ⟨u, e, q⟩ := one_of t
    exact ⟨_, u, by rw [e], r, q⟩
theorem rc_setL {xs : List Str} (hl : xs.length ≤ 1000) : RC (rSetOf K P wo) [LiP K (xs.map (dS K))] (STx P wo xs) := fun w n B vs hv H c Q q => by
  obtain ⟨v, rfl, a, us, rfl, h1, h2⟩ := one_of hv
  obtain rfl := strs_of h2
  exact ⟨a, rfl, .inl ⟨xs, .inl (sqL_same c.sub h1), hl, Go.newF (f := V.ref) (o := fun p => TxO P wo p (gath xs)) (R := (STx P wo xs).p) (fun p _ => ⟨p, rfl, upd_same⟩) H c Q q⟩⟩
theorem rc_setT {xs : List Str} (hl : xs.length ≤ 1000) : RC (rSetOf K P wo) [TuP K (xs.map (dS K))] (STx P wo xs) := fun w n B vs hv H c Q q => by
  obtain ⟨v, rfl, a, us, rfl, h1, h2⟩ := one_of hv
  obtain rfl := strs_of h2
  exact ⟨a, rfl, .inl ⟨xs, .inr (sqT_same c.sub h1), hl, Go.newF (f := V.ref) (o := fun p => TxO P wo p (gath xs)) (R := (STx P wo xs).p) (fun p _ => ⟨p, rfl, upd_same⟩) H c Q q⟩⟩
theorem rc_setI {ns : List Int} (hl : ns.length ≤ 1000) : RC (rSetOf K P wo) [TuP K (ns.map (dI K))] (STi wo ns) := fun w n B vs hv H c Q q => by
  obtain ⟨v, rfl, a, us, rfl, h1, h2⟩ := one_of hv
  obtain rfl := ints_of h2
  exact ⟨a, rfl, .inr ⟨ns, sqT_same c.sub h1, hl, fun a c' hc' hn => Go.newF (f := V.ref) (o := fun p => SetO wo p (fun j => decide (j ∈ ns)) c') (R := (STi wo ns).p) (fun p _ => ⟨p, c', rfl, hc', upd_same⟩) H c Q q a hn⟩⟩
theorem gath_len (xs : List Str) : (gath xs).length ≤ xs.length := by
  unfold gath
  have z : ∀ (xs l : List Str), (xs.foldl inTo l).length ≤ l.length + xs.length := by
    intro xs
    induction xs with
    | nil => intro l; exact Nat.le_add_right _ _
    | cons x xs ih =>
      intro l
      rw [List.foldl_cons, List.length_cons]
      have a := ih (inTo l x)
      have b := inTo_len (l := l) (k := x)
      omega
  have q := z xs []
  simpa using q
theorem setOf_len (xs : List Str) : (setOf xs).length ≤ xs.length := by
  rw [show (setOf xs).length = (gath xs).length from (sortS_perm _).length_eq]
  exact gath_len xs
theorem rc_sortTx {xs : List Str} (h64 : xs.length < 64) : RC (rSortSet P wo) [STx P wo xs] (LoP K ((setOf xs).map (dS K))) := fun w n B vs hv H c Q q => by
  obtain ⟨v, rfl, a, rfl, h1⟩ := one_of hv
  refine .inl ⟨a, _, rfl, c.sub _ _ h1, Nat.lt_of_le_of_lt (gath_len xs) h64, fun ys p hp hs hn => ?_⟩
  rw [sortS_is hp hs]
  exact go_newLo (K := K) (ps_strs (setOf xs)) H c Q q p hn
theorem rc_sortI {ns : List Int} (h64 : ns.length < 64) : RC (rSortSet P wo) [STi wo ns] ⟨fun v B => ∃ ms : List Int, ms.Pairwise (· < ·) ∧ (∀ k, k ∈ ms ↔ k ∈ ns) ∧ (LoP K (ms.map (dI K))).p v B, fun _ _ _ e ⟨ms, h1, h2, h3⟩ => ⟨ms, h1, h2, (LoP K _).mono _ _ _ e h3⟩⟩ := fun w n B vs hv H c Q q => by
  obtain ⟨v, rfl, a, c', rfl, hc', h1⟩ := one_of hv
  refine .inr ⟨a, _, _, rfl, c.sub _ _ h1, Nat.lt_of_le_of_lt hc' h64, fun ms p h2 h3 h4 hn => ?_⟩
  refine go_newLo (K := K) (ps_ints ms) H c Q (fun v B' H' g c' hv => q v B' H' g c' ⟨ms, h2, fun k => ?_, hv⟩) p hn
  rw [h3 k, decide_eq_true_eq]
theorem rc_lenTx {xs : List Str} (hl : xs.length ≤ 1000) : RC (rLenSet P wo) [STx P wo xs] (dI K ((gath xs).length : Nat)) := fun w n B vs hv H c Q q => by
  obtain ⟨v, rfl, a, rfl, h1⟩ := one_of hv
  exact ⟨a, _, rfl, c.sub _ _ h1, Nat.le_trans (gath_len xs) hl, q _ B H Gr.refl c (.int _)⟩
/-! ### sorts -/
theorem zip_at : ∀ {us : List V} {ds : List PyData}, PsAt us (ds.map (DD K)) B → ∀ b ∈ us.zip ds, (DD K b.2).p b.1 B
  | _, [], _ => fun b hb => by simp at hb
  | _, d :: ds, h => fun b hb => by
    cases h with
    | cons r t =>
      rcases List.mem_cons.mp hb with rfl | hb
      · exact r
      · exact zip_at t b hb
theorem ps_map : ∀ {us : List V} {ds : List PyData}, Paired (fun v d => (DD K d).p v B) us ds → PsAt us (ds.map (DD K)) B
  | _, _, .nil => .nil
  | _, _, .cons r t => .cons r (ps_map t)
theorem rc_sortS {xs : List Str} (h64 : xs.length < 64) : RC (rSortedS K) [LiP K (xs.map (dS K))] (LoP K ((sortS xs).map (dS K))) := fun w n B vs hv H c Q q => by
  obtain ⟨v, rfl, a, us, rfl, h1, h2⟩ := one_of hv
  obtain rfl := strs_of h2
  refine ⟨a, xs, rfl, sqL_same c.sub h1, h64, fun ys p hp hs hn => ?_⟩
  rw [sortS_is hp hs]
  exact go_newLo (K := K) (ps_strs (sortS xs)) H c Q q p hn
theorem rc_sortD {ds : List PyData} (ha : AllAlike ds) (hs : Sortable ds) (hd : ∀ d ∈ ds, d.depth ≤ 32) (hl : ds.length ≤ 90000) : RC (rSortedD K) [LiP K (ds.map (DD K))] (LoP K ((ds.mergeSort (dataLe false id)).map (DD K))) := fun w n B vs hv H c Q q => by
  obtain ⟨v, rfl, a, us, rfl, h1, h2⟩ := one_of hv
  refine ⟨a, us, ds, rfl, sqL_same c.sub h1, dpAll_same c.sub ds us (psAt_dpAll h2), ha, hs, hd, hl, fun ys p hp hn => ?_⟩
  have z := hp (fun v d => (DD K d).p v B) fun b hb => zip_at h2 b hb
  exact go_newLo (K := K) (ps_map z) H c Q q p hn
theorem rc_minD {d e : PyData} (a1 : alike d e = true) (a2 : alike d d = true) (a3 : alike e e = true) (a4 : alike e d = true) (n1 : d ≠ .none) (n2 : e ≠ .none) (d1 : d.depth ≤ 32) (d2 : e.depth ≤ 32) : RC (rMinD K) [DD K d, DD K e] (DD K (if dataLt e d = true then e else d)) := fun w n B vs hv H c Q q => by
  obtain ⟨x, y, rfl, h1, h2⟩ := two_at hv
  refine ⟨x, y, d, e, rfl, dp_same c.sub d x h1, dp_same c.sub e y h2, a1, a2, a3, a4, n1, n2, d1, d2, q _ B H Gr.refl c ?_⟩
  split
  · exact h2
  · exact h1
/-! ### list(enumerate(t)), tuple(zip(x, y)) -/
theorem ev_listEnum (h : Ev w n m te σ B (TuP K Ps)) (hl : Ps.length ≤ 90000) : Ev w n m (tListEnum K te) σ B (LoP K (((List.range Ps.length).zip Ps).map fun p => TuP K [dI K (p.1 : Int), p.2])) := fun B1 s1 =>
  Go.bind (f := fun x H1 (Q : V → Hp → Prop) => ∃ a xs, x = V.ref a ∧ SqT K H1 a xs ∧ xs.length ≤ 90000 ∧ ∀ l ts H2, ts.length = xs.length → NewPs H1 H2 l (.lst (ts.map V.ref)) ts (fun j => [.int (j : Int), xs.getD j .non]) → Q (.ref l) H2) (h B1 s1) fun x B2 s2 hx H c Q q => by
    obtain ⟨a, vs, rfl, h1, h2⟩ := hx
    have e := ps_len h2
    refine ⟨a, vs, rfl, sqT_same c.sub h1, by omega, go_newPs (o := fun _ ts => .lst (ts.map V.ref)) (k := vs.length) (fun H H2 l ts hs hl N => ⟨l, _, rfl, N.at, ?_⟩) H c Q q⟩
    refine ps_of_get (by rw [List.length_map, List.length_map, List.length_zip, List.length_range]; omega) fun i v P e1 e2 => ?_
    rw [List.getElem?_map] at e1 e2
    obtain ⟨t, e3, rfl⟩ := Option.map_eq_some_iff.mp e1
    obtain ⟨⟨j, R⟩, e4, rfl⟩ := Option.map_eq_some_iff.mp e2
    rw [List.getElem?_zip_eq_some] at e4
    obtain ⟨e5, e6⟩ := e4
    have hi : i < Ps.length := (List.getElem?_eq_some_iff.mp e6).1
    rw [List.getElem?_range hi] at e5
    obtain rfl := Option.some.inj e5
    obtain ⟨u, e7, e8⟩ := ps_get' h2 e6
    have eu : vs.getD i .non = u := by rw [List.getD_eq_getElem?_getD, e7] <;> rfl
    have q := N.atT (B := B2) e3
    rw [eu] at q
    exact ⟨t, _, rfl, st_of q, .cons (.int _) (.cons (R.mono u B2 _ (N.same hs) e8) .nil)⟩
theorem zip_ps {a b : List V} {Ps Rs : List Pr} {B2 H H2 : Hp} {l : Addr} {o : HO} {ts : List Addr} (h2 : PsAt a Ps B2) (h4 : PsAt b Rs B2) (hs : Same B2 H) (N : NewPs H H2 l o ts (fun j => [a.getD j .non, b.getD j .non])) (hl : ts.length = min a.length b.length) :
    PsAt (ts.map V.ref) ((Ps.zip Rs).map fun p => TuP K [p.1, p.2]) (addB B2 H2 l ts) := by
  have e1 := ps_len h2
  have e2 := ps_len h4
  refine ps_of_get (by rw [List.length_map, List.length_map, List.length_zip]; omega) fun i v P f1 f2 => ?_
  rw [List.getElem?_map] at f1 f2
  obtain ⟨t, f3, rfl⟩ := Option.map_eq_some_iff.mp f1
  obtain ⟨⟨P1, R⟩, f4, rfl⟩ := Option.map_eq_some_iff.mp f2
  rw [List.getElem?_zip_eq_some] at f4
  obtain ⟨f5, f6⟩ := f4
  obtain ⟨u, f7, f8⟩ := ps_get' h2 f5
  obtain ⟨u2, g7, g8⟩ := ps_get' h4 f6
  have eu : a.getD i .non = u := by rw [List.getD_eq_getElem?_getD, f7] <;> rfl
  have eu2 : b.getD i .non = u2 := by rw [List.getD_eq_getElem?_getD, g7] <;> rfl
  have q := N.atT (B := B2) f3
  rw [eu, eu2] at q
  exact ⟨t, _, rfl, st_of q, .cons (P1.mono u B2 _ (N.same hs) f8) (.cons (R.mono u2 B2 _ (N.same hs) g8) .nil)⟩
theorem ev_tupZipL (h : EvA w n m ta σ B [LiP K Ps, LiP K Rs]) (hl : Ps.length ≤ 90000) : Ev w n m (tTupZip K ta) σ B (TuP K ((Ps.zip Rs).map fun p => TuP K [p.1, p.2])) := fun B1 s1 =>
  Go.bind (f := fun vs H1 (Q : V → Hp → Prop) => ∃ a b xs ys, vs = [V.ref a, V.ref b] ∧ ((SqL K H1 a xs ∧ SqL K H1 b ys) ∨ (SqT K H1 a xs ∧ SqT K H1 b ys)) ∧ xs.length ≤ 90000 ∧ ∀ l ts H2, ts.length = min xs.length ys.length → NewPs H1 H2 l (.tup (ts.map V.ref)) ts (fun j => [xs.getD j .non, ys.getD j .non]) → Q (.ref l) H2) (h B1 s1) fun x B2 s2 hx H c Q q => by
    obtain ⟨v, u, rfl, ⟨a, vs, rfl, h1, h2⟩, b, us, rfl, h3, h4⟩ := two_at hx
    have e := ps_len h2
    exact ⟨a, b, vs, us, rfl, .inl ⟨sqL_same c.sub h1, sqL_same c.sub h3⟩, by omega, go_newPs (o := fun _ ts => .tup (ts.map V.ref)) (k := min vs.length us.length) (fun H H2 l ts hs hl N => ⟨l, _, rfl, st_of N.at, zip_ps h2 h4 hs N hl⟩) H c Q q⟩
theorem ev_tupZipT (h : EvA w n m ta σ B [TuP K Ps, TuP K Rs]) (hl : Ps.length ≤ 90000) : Ev w n m (tTupZip K ta) σ B (TuP K ((Ps.zip Rs).map fun p => TuP K [p.1, p.2])) := fun B1 s1 =>
  Go.bind (f := fun vs H1 (Q : V → Hp → Prop) => ∃ a b xs ys, vs = [V.ref a, V.ref b] ∧ ((SqL K H1 a xs ∧ SqL K H1 b ys) ∨ (SqT K H1 a xs ∧ SqT K H1 b ys)) ∧ xs.length ≤ 90000 ∧ ∀ l ts H2, ts.length = min xs.length ys.length → NewPs H1 H2 l (.tup (ts.map V.ref)) ts (fun j => [xs.getD j .non, ys.getD j .non]) → Q (.ref l) H2) (h B1 s1) fun x B2 s2 hx H c Q q => by
    obtain ⟨v, u, rfl, ⟨a, vs, rfl, h1, h2⟩, b, us, rfl, h3, h4⟩ := two_at hx
    have e := ps_len h2
    exact ⟨a, b, vs, us, rfl, .inr ⟨sqT_same c.sub h1, sqT_same c.sub h3⟩, by omega, go_newPs (o := fun _ ts => .tup (ts.map V.ref)) (k := min vs.length us.length) (fun H H2 l ts hs hl N => ⟨l, _, rfl, st_of N.at, zip_ps h2 h4 hs N hl⟩) H c Q q⟩
/-! ### walks -/
variable {α β : Type} {xs : List α} {ys : List β} {Y : α → Pr} {Z : β → Pr}
theorem es_enumT (h : EvA w n m ta σ B [TuP K (xs.map Y)]) : EvW w n m (iEnumT K ta) σ B ((List.range xs.length).zip xs) (fun p => TuP K [dI K (p.1 : Int), Y p.2]) := fun B1 s1 H c R q =>
  h B1 s1 H c _ fun vs B2 H2 g2 c2 hv => by
    obtain ⟨v, rfl, a, vs, rfl, h1, h2⟩ := one_of hv
    have hl : vs.length = xs.length := by rw [ps_len h2, List.length_map]
    have hz : ((List.range xs.length).zip xs).length = xs.length := by rw [List.length_zip, List.length_range, Nat.min_self]
    refine ⟨a, vs, rfl, sqT_same c2.sub h1, q _ B2 H2 g2 c2 fun u => ⟨fun i k B3 H3 s3 c3 hi => ?_, fun k B3 H3 s3 c3 => ?_, fun i k B3 H3 v H4 s3 c3 hi hy => ?_⟩⟩
    · rw [hz] at hi
      obtain ⟨y, hy⟩ := nth_some (ys := vs) (i := i) (by rw [hl]; exact hi)
      exact ⟨vs, y, sqT_same (s3.trans c3.sub) h1, hy⟩
    · exact ⟨vs, sqT_same (s3.trans c3.sub) h1, by rw [hz, hl]; exact Nat.le_refl _⟩
    · rw [hz] at hi
      obtain ⟨T, v2, rfl, hT, rfl, e2⟩ := hy
      obtain ⟨P, e3, e4⟩ := ps_get h2 (e2 vs (sqT_same (s3.trans c3.sub) h1))
      rw [List.getElem?_map] at e3
      obtain ⟨x, e5, rfl⟩ := Option.map_eq_some_iff.mp e3
      obtain ⟨B4, g4, c4, p4⟩ := yl_pair (K := K) (P1 := dI K (i : Int)) (P2 := Y x) c3 hT (.int _) ((Y x).mono v2 B2 B3 s3 e4)
      exact ⟨(i, x), B4, by rw [List.getElem?_zip_eq_some]; exact ⟨by rw [List.getElem?_range hi], e5⟩, g4, c4, p4⟩
/-- the signs of a text -/
def signs (x : Str) : List Str := x.cps.toList.map fun c => ⟨#[c]⟩
theorem signs_get {x : Str} {i c : Nat} (h : x.cps[i]? = some c) : (signs x)[i]? = some ⟨#[c]⟩ := by
  unfold signs
  rw [List.getElem?_map, Array.getElem?_toList, h] <;> rfl
theorem signs_len (x : Str) : (signs x).length = x.cps.size := by
  unfold signs
  rw [List.length_map, Array.length_toList]
theorem es_str {x : Str} (h : Ev w n m te σ B (dS K x)) : EvW w n m (iStr te) σ B (signs x) (dS K) := fun B1 s1 H c R q =>
  h B1 s1 H c _ fun v B2 H2 g2 c2 hv => by
    refine ⟨x, dd_str hv, q _ B2 H2 g2 c2 fun u => ⟨fun i k B3 H3 s3 c3 hi => ?_, fun k B3 H3 s3 c3 => ?_, fun i k B3 H3 v H4 s3 c3 hi hy => ?_⟩⟩
    · rw [signs_len] at hi
      exact hi
    · rw [signs_len]
      exact Nat.le_refl _
    · obtain ⟨rfl, c', e, rfl⟩ := hy
      exact ⟨_, B3, signs_get e, Gr.refl, c3, .str _⟩
theorem es_enumS {x : Str} (h : EvA w n m ta σ B [dS K x]) : EvW w n m (iEnumS ta) σ B ((List.range (signs x).length).zip (signs x)) (fun p => TuP K [dI K (p.1 : Int), dS K p.2]) := fun B1 s1 H c R q =>
  h B1 s1 H c _ fun vs B2 H2 g2 c2 hv => by
    obtain ⟨v, rfl, hv1⟩ := one_of hv
    have hz : ((List.range (signs x).length).zip (signs x)).length = x.cps.size := by rw [List.length_zip, List.length_range, Nat.min_self, signs_len]
    refine ⟨x, by rw [dd_str hv1], q _ B2 H2 g2 c2 fun u => ⟨fun i k B3 H3 s3 c3 hi => ?_, fun k B3 H3 s3 c3 => ?_, fun i k B3 H3 v H4 s3 c3 hi hy => ?_⟩⟩
    · rw [hz] at hi
      exact hi
    · rw [hz]
      exact Nat.le_refl _
    · rw [hz] at hi
      obtain ⟨T, c', rfl, hT, rfl, e⟩ := hy
      obtain ⟨B4, g4, c4, p4⟩ := yl_pair (K := K) (P1 := dI K (i : Int)) (P2 := dS K ⟨#[c']⟩) (v1 := .int (i : Int)) (v2 := .str ⟨#[c']⟩) c3 hT (.int _) (.str _)
      exact ⟨(i, ⟨#[c']⟩), B4, by rw [List.getElem?_zip_eq_some]; exact ⟨by rw [List.getElem?_range (by rw [signs_len]; exact hi)], signs_get e⟩, g4, c4, p4⟩
theorem es_zipA (h : EvA w n m ta σ B [LiP K (xs.map Y), LiP K (ys.map Z)]) : EvW w n m (RZ.iZipA K ta) σ B (xs.zip ys) (fun p => TuP K [Y p.1, Z p.2]) := fun B1 s1 H c R q =>
  h B1 s1 H c _ fun vs B2 H2 g2 c2 hv => by
    obtain ⟨v, u, rfl, ⟨a, vs, rfl, h1, h2⟩, b, us, rfl, h3, h4⟩ := two_at hv
    refine ⟨a, b, vs, us, rfl, .inl ⟨sqL_same c2.sub h1, sqL_same c2.sub h3, ?_⟩⟩
    exact es_zip (ta := fun _ H Q => Q [.ref a, .ref b] H) (σ := σ) (w := w) (n := m) (m := m) (B := B2) (K := K) (Y := Y) (Z := Z) (xs := xs) (ys := ys)
      (fun B1 s1 => Go.one (.cons ⟨a, vs, rfl, sqL_same s1 h1, psAt_same s1 h2⟩ (.cons ⟨b, us, rfl, sqL_same s1 h3, psAt_same s1 h4⟩ .nil))) B2 (Same.refl _) H2 c2 R (fun J B' H' g c' k => q J B' H' (g2.trans g) c' k) |> fun z => by
        obtain ⟨a', b', xs', ys', e, e1, e2, r⟩ := z
        obtain ⟨rfl, rfl⟩ : a = a' ∧ b = b' := by simpa using e
        exact r
end
end Pk


set_option Elab.async false
set_option linter.all false
set_option maxRecDepth 100000
set_option maxHeartbeats 4000000
/-! Pk13: isinstance; lists and tuples alike. -/
namespace Pk
open PySem PySem.Spec PyProof.Rows L2 PySem.W
/-- a list or a tuple, walked -/
def iAny (K : PySem.W.Frag) (tl : TE) : TI := fun σ H R => tl σ H fun x H1 => ∃ a, x = .ref a ∧ (((∃ xs, SqL K H1 a xs) ∧ R (Itl K a) H1) ∨ ((∃ xs, SqT K H1 a xs) ∧ R (Itt K a) H1))
section
variable {X : Cx} {K : PySem.W.Frag} {tg l : Expr} {tl : TE}
theorem pi_any (hl : PE X l tl) : PI X tg l (iAny X.K tl) := by
  refine ⟨fun pins s σ H R I h => ?_⟩
  refine thn (hl.run pins s σ H _ I h) fun v s1 ⟨x, H1, I1, r1, q1⟩ => ?_
  obtain ⟨a, rfl, q⟩ := q1
  cases r1
  have fp : ∀ b ∈ [s1.heap.objs.size], FpOk X pins H1 b := fun b hb => by
    obtain rfl : b = s1.heap.objs.size := by simpa using hb
    exact I1.fpOk (Nat.le_refl _) (I1.hok.fresh (Nat.le_refl _))
  rcases q with ⟨⟨xs, hq⟩, q⟩ | ⟨⟨xs, hq⟩, q⟩
  · obtain ⟨its, rv, p, hz⟩ := I1.list hq
    exact wpAny_pyIter_list p.isList ⟨_, _, _, _, H1, rfl, I1.kept (t' := s1.toks) fun b o e => Heap.get?_push_of_some _ e, turn_list a _, ⟨_, Heap.get?_push_size _ rfl, rfl, rfl⟩, fp, q⟩
  · obtain ⟨its, rv, p, hz⟩ := I1.tuple hq
    exact wpAny_pyIter_tuple (show s1.heap.IsTuple a its.toArray from p) ⟨_, _, _, _, H1, rfl, I1.kept (t' := s1.toks) fun b o e => Heap.get?_push_of_some _ e, turn_tuple a _, ⟨_, Heap.get?_push_size _ rfl, rfl, rfl⟩, fp, q⟩
theorem kp_any (q : X.K = K) (h : PE X l tl) : PI X tg l (iAny K tl) := by subst q; exact pi_any h
end
section
variable {w : Wd} {n m l : Nat} {K : PySem.W.Frag} {σ : L2.St} {B : Hp} {te tb : TE} {ta : TA} {P : Pr} {α β : Type} {xs : List α} {ys : List β} {Y : α → Pr} {Z : β → Pr}
/-- a list or a tuple of such things -/
def SqP (K : PySem.W.Frag) (Ps : List Pr) : Pr := ⟨fun v B => (LiP K Ps).p v B ∨ (TuP K Ps).p v B, fun v B B' e h => h.imp ((LiP K Ps).mono v B B' e) ((TuP K Ps).mono v B B' e)⟩
theorem es_any (h : Ev w n m te σ B (SqP K (xs.map Y))) : EvW w n m (iAny K te) σ B xs Y := fun B1 s1 H c R q =>
  h B1 s1 H c _ fun v B2 H2 g2 c2 hv => by
    rcases hv with hv | hv
    · obtain ⟨a, e, e1, r⟩ := es_list (te := fun _ H Q => Q v H) (σ := σ) (w := w) (n := m) (m := m) (B := B2) (K := K) (Y := Y) (xs := xs) (fun B3 s3 => Go.one ((LiP K _).mono v B2 B3 s3 hv)) B2 (Same.refl _) H2 c2 R fun J B' H' g c' k => q J B' H' (g2.trans g) c' k
      exact ⟨a, e, .inl ⟨e1, r⟩⟩
    · obtain ⟨a, e, e1, r⟩ := es_tup (te := fun _ H Q => Q v H) (σ := σ) (w := w) (n := m) (m := m) (B := B2) (K := K) (Y := Y) (xs := xs) (fun B3 s3 => Go.one ((TuP K _).mono v B2 B3 s3 hv)) B2 (Same.refl _) H2 c2 R fun J B' H' g c' k => q J B' H' (g2.trans g) c' k
      exact ⟨a, e, .inr ⟨e1, r⟩⟩
theorem es_zipT (h : EvA w n m ta σ B [TuP K (xs.map Y), TuP K (ys.map Z)]) : EvW w n m (RZ.iZipA K ta) σ B (xs.zip ys) (fun p => TuP K [Y p.1, Z p.2]) := fun B1 s1 H c R q =>
  h B1 s1 H c _ fun vs B2 H2 g2 c2 hv => by
    obtain ⟨v, u, rfl, ⟨a, vs, rfl, h1, h2⟩, b, us, rfl, h3, h4⟩ := two_at hv
    have hl : vs.length = xs.length := by rw [ps_len h2, List.length_map]
    have hl' : us.length = ys.length := by rw [ps_len h4, List.length_map]
    have hz : (xs.zip ys).length = min vs.length us.length := by rw [List.length_zip, hl, hl']
    refine ⟨a, b, vs, us, rfl, .inr ⟨sqT_same c2.sub h1, sqT_same c2.sub h3, q _ B2 H2 g2 c2 fun u => ⟨fun i k B3 H3 s3 c3 hi => ?_, fun k B3 H3 s3 c3 => ?_, fun i k B3 H3 v H4 s3 c3 hi hy => ?_⟩⟩⟩
    · obtain ⟨x, hx⟩ := nth_some (ys := vs) (i := i) (by omega)
      obtain ⟨y, hy⟩ := nth_some (ys := us) (i := i) (by omega)
      exact ⟨vs, us, x, y, sqT_same (s3.trans c3.sub) h1, sqT_same (s3.trans c3.sub) h3, hx, hy⟩
    · exact ⟨vs, us, sqT_same (s3.trans c3.sub) h1, sqT_same (s3.trans c3.sub) h3, by omega⟩
    · obtain ⟨T, v1, v2, rfl, hT, rfl, e1, e2⟩ := hy
      obtain ⟨P, e3, e4⟩ := ps_get h2 (e1 vs (sqT_same (s3.trans c3.sub) h1))
      rw [List.getElem?_map] at e3
      obtain ⟨x, e5, rfl⟩ := Option.map_eq_some_iff.mp e3
      obtain ⟨P, e6, e7⟩ := ps_get h4 (e2 us (sqT_same (s3.trans c3.sub) h3))
      rw [List.getElem?_map] at e6
      obtain ⟨y, e8, rfl⟩ := Option.map_eq_some_iff.mp e6
      obtain ⟨B4, g4, c4, p4⟩ := yl_pair (K := K) (P1 := Y x) (P2 := Z y) c3 hT ((Y x).mono v1 B2 B3 s3 e4) ((Z y).mono v2 B2 B3 s3 e7)
      exact ⟨(x, y), B4, by rw [List.getElem?_zip_eq_some]; exact ⟨e5, e8⟩, g4, c4, p4⟩
/-! ### isinstance -/
def isDict : PyData → Bool
  | .dict _ => true
  | _ => false
def tyName : PyData → String
  | .none => "NoneType"
  | .bool _ => "bool"
  | .int _ => "int"
  | .str _ => "str"
  | .list _ => "list"
  | .tuple _ => "tuple"
  | .dict _ => "dict"
theorem tyx_sqL {H : Hp} {a : Addr} {vs : List V} (h : SqL K H a vs) : TyX K H (.ref a) (.type "list") := by
  rcases h with (h | ⟨o, h⟩) | ⟨o, its, n, hk, hc, _⟩
  · exact .base (.lst h)
  · exact .base (.frz h)
  · exact .kList hk hc
theorem tyx_sqT {H : Hp} {a : Addr} {vs : List V} (h : SqT K H a vs) : TyX K H (.ref a) (.type "tuple") := by
  rcases h with (h | ⟨o, h⟩) | ⟨o, its, n, hk, hc, _⟩
  · exact .base (.tup h)
  · exact .fTuple h
  · exact .kTuple hk hc
theorem tyx_dd {H : Hp} {v : V} {d : PyData} (h : Dp K H v d) : TyX K H v (.type (tyName d)) := by
  cases h with
  | non => exact .base .non
  | bl b => exact .base (.bl b)
  | int i => exact .base (.int i)
  | str x => exact .base (.str x)
  | lst hs _ => exact tyx_sqL hs
  | tup hs _ => exact tyx_sqT hs
def isTy (d : PyData) (T : String) : Bool := (kitB (tyName d) T).getD false
theorem rc_isi {d : PyData} {T : String} (h : (kitB (tyName d) T).isSome = true) : RC (rIsi K) [DD K d, VV (.ty T)] (dB K (isTy d T)) := fun w n B vs hv H c Q q => by
  obtain ⟨v, u, rfl, h1, rfl⟩ := two_at hv
  obtain ⟨b, e⟩ := Option.isSome_iff_exists.mp h
  have eb : isTy d T = b := by unfold isTy; rw [e] <;> rfl
  rw [eb] at q
  exact ⟨v, .ty T, _, _, b, rfl, .ty T, tyx_dd (dp_same c.sub d v h1), kit_ty e, q _ B H Gr.refl c (.bl b)⟩
def isSeq : PyData → Bool
  | .list _ => true
  | .tuple _ => true
  | _ => false
theorem kit_seq (d : PyData) (T1 T2 : String) (h : T1 = "list" ∧ T2 = "tuple" ∨ T1 = "tuple" ∧ T2 = "list") (hd : isDict d = false) : PySem.W.kitAny K (.type (tyName d)) [.type T1, .type T2] = some (isSeq d) := by
  rcases h with ⟨rfl, rfl⟩ | ⟨rfl, rfl⟩ <;> cases d <;> first | rfl | (simp [isDict] at hd)
/-- isinstance(e, (T1, T2)) -/
theorem ev_isiLT {T1 T2 : String} {d : PyData} (h : Ev w n m te σ B (DD K d)) (hT : T1 = "list" ∧ T2 = "tuple" ∨ T1 = "tuple" ∧ T2 = "list") (hd : isDict d = false) :
    Ev w n m (tCB (rIsiT K) (tCons te (tCons (tTup (tCons (tC (.ty T1)) (tCons (tC (.ty T2)) tNil))) tNil))) σ B (dB K (isSeq d)) := fun B1 s1 H c Q q =>
  h B1 s1 H c _ fun v B2 H2 g2 c2 hv => ⟨(by decide : 2 ≤ 100000) |> sz_of, fun p hp => by
    have bp := c2.sub.free hp
    refine ⟨v, p, [.ty T1, .ty T2], _, [.type T1, .type T2], isSeq d, rfl, upd_same, .cons (.ty T1) (.cons (.ty T2) .nil), tyx_dd (dp_same (c2.sub.trans (same_new hp)) d v hv), kit_seq d T1 T2 hT hd, ?_⟩
    exact q _ B2 _ (g2.mut (by
      cases e : H p with
      | none => rfl
      | some u => exact absurd hp (g2.has p (by rw [e]; exact Option.some_ne_none u)))) (c2.mut bp (c2.notS hp)) (.bl _)⟩
end
end Pk


set_option Elab.async false
set_option linter.all false
set_option maxRecDepth 100000
set_option maxHeartbeats 4000000
/-! PkF2: is_number, is_name, tupled, set_of, kinds_at. -/
namespace Pk
open PySem PySem.Spec PyProof.Rows L2 PkH
section
variable {w : Wd} {n m l : Nat} {K : PySem.W.Frag} {σ : L2.St} {B : Hp} {ta tb tc te : TE} {P1 P2 P3 : Pr} {r r' : R2}
/-- where nothing may be changed the budget is nothing -/
theorem Ev.z {k : Nat} (h : Ev w0 n m te σ B P1) : Ev w0 l k te σ B P1 := fun B1 s1 H c Q q => h B1 s1 H ⟨c.sub, c.cl, True.intro⟩ Q fun v B' H' g c' p => q v B' H' g ⟨c'.sub, c'.cl, True.intro⟩ p
theorem EvT.z {k : Nat} {tt : TT} {b : Bool} (h : EvT w0 n m tt σ B b) : EvT w0 l k tt σ B b := fun B1 s1 H c Q q => h B1 s1 H ⟨c.sub, c.cl, True.intro⟩ Q fun v B' H' g c' p => q v B' H' g ⟨c'.sub, c'.cl, True.intro⟩ p
/-- a < b <= c -/
theorem ev_chain {b b' : Bool} (ha : Ev w n m ta σ B P1) (hb : Ev w m l tb σ B P2) (hr : RV r P1 P2 (dB K b)) (hc : b = true → Ev w l l tc σ B P3) (hr' : b = true → RV r' P2 P3 (dB K b')) : Ev w n l (tChain r r' ta tb tc) σ B (dB K (b && b')) := fun B1 s1 =>
  Go.bind (f := fun x H1 Q => tb σ H1 fun y H2 => r x y H2 fun z H3 => ∃ k, z = V.bl k ∧ (if k = true then tc σ H3 fun w' H4 => r' y w' H4 Q else Q (.bl false) H3)) (ha B1 s1) fun x B2 s2 hx =>
  Go.bind (f := fun y H2 Q => r x y H2 fun z H3 => ∃ k, z = V.bl k ∧ (if k = true then tc σ H3 fun w' H4 => r' y w' H4 Q else Q (.bl false) H3)) (hb B2 (s1.trans s2)) fun y B3 s3 hy =>
  Go.bind (f := fun z H3 Q => ∃ k, z = V.bl k ∧ (if k = true then tc σ H3 fun w' H4 => r' y w' H4 Q else Q (.bl false) H3)) (hr w l B3 x y (P1.mono x B2 B3 s3 hx) hy) fun z B4 s4 hz H c Q q => ⟨b, dd_bool hz, by
    cases b with
    | false => exact q _ B4 H Gr.refl c (.bl false)
    | true =>
      exact Go.bind (f := fun w' H4 Q => r' y w' H4 Q) (hc rfl B4 (((s1.trans s2).trans s3).trans s4)) (fun u B5 s5 hu => hr' rfl w l B5 y u (P2.mono y B3 B5 (s4.trans s5) hy) hu) H c Q q⟩
theorem RV.to3 {r : R2} {P1 P2 : Pr} {b b' : Bool} (h : RV r P1 P2 (dB K b)) (e : b = b') : RV r P1 P2 (dB K b') := by
  rw [← e]
  exact h
theorem rc_allM {α : Type} (f : α → Bool) (xs : List α) : RC (rAll K) [LiP K (xs.map fun x => dB K (f x))] (dB K (xs.all f)) := by
  have h := rc_all (K := K) (bs := xs.map f)
  rw [List.map_map, List.all_map] at h
  exact h
/-- a text within a text -/
def within (i j : Str) : Bool := !(Builtin.Str.occurrences j i 0 j.length 1).isEmpty
theorem rv_inStr {i j : Str} : RV (fun x y H Q => ∃ i j, x = .str i ∧ y = .str j ∧ Q (.bl (!(Builtin.Str.occurrences j i 0 j.length 1).isEmpty)) H) (dS K i) (dS K j) (dB K (within i j)) := fun w n B x y hx hy H c Q q =>
  ⟨i, j, dd_str hx, dd_str hy, q _ B H Gr.refl c (.bl _)⟩
end
def isNum : PyData → Bool
  | .int _ => true
  | _ => false
def GNum (K : PySem.W.Frag) : List Pr → Pr → Prop := fun Ps P => ∃ d, Ps = [DD K d] ∧ isDict d = false ∧ P = dB K (isNum d)
theorem isNum_ty {d : PyData} (h : isDict d = false) : (isTy d "int" && !isTy d "bool") = isNum d := by
  cases d <;> first | rfl | (simp [isDict] at h)
def letters : Str := "abcdefghijklmnopqrstuvwxyz"
def okName (x : Str) : Prop := 0 < x.length ∧ x.length ≤ 8 ∧ ∀ s ∈ signs x, within s letters = true
def GName (K : PySem.W.Frag) : List Pr → Pr → Prop := fun Ps P => ∃ x, Ps = [dS K x] ∧ okName x ∧ P = dB K true
mutual
def tupD : PyData → PyData
  | .list xs => .tuple (tupAll xs)
  | .tuple xs => .tuple (tupAll xs)
  | d => d
def tupAll : List PyData → List PyData
  | [] => []
  | x :: xs => tupD x :: tupAll xs
end
theorem tupAll_map : ∀ xs, tupAll xs = xs.map tupD
  | [] => rfl
  | x :: xs => by rw [tupAll, tupAll_map xs] <;> rfl
mutual
def noDict : PyData → Bool
  | .dict _ => false
  | .list xs => noDicts xs
  | .tuple xs => noDicts xs
  | _ => true
def noDicts : List PyData → Bool
  | [] => true
  | x :: xs => noDict x && noDicts xs
end
mutual
/-- the levels of lists and tuples -/
def lev : PyData → Nat
  | .list xs => levs xs + 1
  | .tuple xs => levs xs + 1
  | _ => 0
def levs : List PyData → Nat
  | [] => 0
  | x :: xs => max (lev x) (levs xs)
end
theorem levs_le : ∀ {xs : List PyData} {x : PyData}, x ∈ xs → lev x ≤ levs xs
  | y :: ys, x, h => by
    rw [levs]
    rcases List.mem_cons.mp h with rfl | h
    · exact Nat.le_max_left _ _
    · exact Nat.le_trans (levs_le h) (Nat.le_max_right _ _)
theorem noDicts_of : ∀ {xs : List PyData} {x : PyData}, noDicts xs = true → x ∈ xs → noDict x = true
  | y :: ys, x, h, hx => by
    rw [noDicts, Bool.and_eq_true] at h
    rcases List.mem_cons.mp hx with rfl | hx
    · exact h.1
    · exact noDicts_of h.2 hx
mutual
/-- no list too long -/
def wide : PyData → Prop
  | .list xs => xs.length ≤ 90000 ∧ wides xs
  | .tuple xs => xs.length ≤ 90000 ∧ wides xs
  | _ => True
def wides : List PyData → Prop
  | [] => True
  | x :: xs => wide x ∧ wides xs
end
theorem wides_of : ∀ {xs : List PyData} {x : PyData}, wides xs → x ∈ xs → wide x
  | y :: ys, x, h, hx => by
    rw [wides] at h
    rcases List.mem_cons.mp hx with rfl | hx
    · exact h.1
    · exact wides_of h.2 hx
theorem dict_of_no {d : PyData} (h : noDict d = true) : isDict d = false := by
  cases d with
  | dict _ => simp [noDict] at h
  | _ => rfl
def GTup (K : PySem.W.Frag) (n : Nat) : List Pr → Pr → Prop := fun Ps P => ∃ d, Ps = [DD K d] ∧ noDict d = true ∧ wide d ∧ lev d ≤ n ∧ P = DD K (tupD d)
/-- a list or a tuple of texts -/
def GSetS (K : PySem.W.Frag) : List Pr → Pr → Prop := fun Ps P => ∃ xs : List Str, (Ps = [LiP K (xs.map (dS K))] ∨ Ps = [TuP K (xs.map (dS K))]) ∧ xs.length < 64 ∧ P = DD K (eTS (setOf xs))
section
variable {P : Program} {w : World} {K : PySem.W.Frag} {mg : Str → Option Value} {base : Heap} {B : Hp}
theorem scNum : FnScope ["thing"] ["thing"] (defScope (top 4)) := ⟨rfl, rfl, rfl, by decide +kernel, rfl, by decide +kernel, by decide +kernel⟩
theorem calNum (T : Txt K mg) : Cal P w K mg base 1 "is_number" ["thing"] (spF (GNum K)) := by
  obtain ⟨fd, F⟩ := T.f_is_number
  refine cal_of (k := 0) F T.g_is_number scNum (fun Ps P ⟨_, e, _⟩ => by rw [e] <;> rfl) (fun _ _ _ _ _ _ us hl => match us, hl with | [_], _ => rfl) fun cdv A o s H E hr => ?_
  refine ⟨_, (pss_one (ps_ret (pe_and (pe_callB (kc_isi (K := K) rfl) (by rfl) T.m_isinstance (by decide +kernel) (pa_cons (pv 0) (pa_cons (pe_bltn (v := .ty "int") (by rfl) T.m_int (by decide +kernel) rfl) pa_nil))) (pe_one (pe_not (pe_callB (kc_isi (K := K) rfl) (by rfl) T.m_isinstance (by decide +kernel) (pa_cons (pv 0) (pa_cons (pe_bltn (v := .ty "bool") (by rfl) T.m_bool (by decide +kernel) rfl) pa_nil)))))))), ?_⟩
  intro H B vs Ps P0 hs hp ⟨d, hP, hd, hP0⟩ D q
  subst hP hP0
  obtain ⟨v, rfl, h0⟩ := one_of hp
  have hv : ∀ T : String, (kitB (tyName d) T).isSome = true → Ev w0 0 0 (tCB (rIsi K) (tCons (tVar 0) (tCons (tC (.ty T)) tNil))) [some v] B (dB K (isTy d T)) := fun T hT => ev_cb (ea_cons (ev_var rfl h0) (ea_cons (ev_c (P := VV (.ty T)) rfl) ea_nil)) (rc_isi hT)
  have k1 : (kitB (tyName d) "int").isSome = true := by cases d <;> first | rfl | (simp [isDict] at hd)
  have k2 : (kitB (tyName d) "bool").isSome = true := by cases d <;> first | rfl | (simp [isDict] at hd)
  refine s_ret (m := 0) (at0 hs) (P := dB K (isNum d)) ((ev_andV (hv _ k1) fun _ => ev_notV (hv _ k2)).to (by rw [isNum_ty hd])) fun v B' H' a s hv => q _ v B' H' a hv
theorem scName : FnScope ["thing", "sign"] ["thing"] (defScope (top 5)) := ⟨rfl, rfl, rfl, by decide +kernel, rfl, by decide +kernel, by decide +kernel⟩
theorem calName (T : Txt K mg) : Cal P w K mg base 1 "is_name" ["thing"] (spF (GName K)) := by
  obtain ⟨fd, F⟩ := T.f_is_name
  refine cal_of (k := 0) F T.g_is_name scName (fun Ps P ⟨_, e, _⟩ => by rw [e] <;> rfl) (fun _ _ _ _ _ _ us hl => match us, hl with | [_], _ => rfl) fun cdv A o s H E hr => ?_
  refine ⟨_, (pss_cons (ps_if (PW.pt (pw_or (pt_not (pt_val (pe_callB (kc_isi (K := K) rfl) (by rfl) T.m_isinstance (by decide +kernel) (pa_cons (pv 0) (pa_cons (pe_bltn (v := .ty "str") (by rfl) T.m_str (by decide +kernel) rfl) pa_nil))))) (pw_or1 (pt_not (pt_chain op_lt op_le pe_int (pe_callB call_len_str (by rfl) T.m_len PySem.boot_len (pa_cons (pv 0) pa_nil)) (pe_glob (v := .int 8) rfl T.c_longest.choose_spec ⟨_, rfl⟩)))))) (pss_one (ps_ret pe_bl)) pss_nil)
    (pss_one (ps_ret (pe_callB (kc_all (K := K) rfl rfl) (by rfl) T.m_all (by decide +kernel) (pa_cons (pe_lc (own := [("sign", 1)]) (by rfl) scName.nd (pi_str (pv 0)) (blkOk_by (by kernel_rfl)) (fun _ _ _ _ _ => (pg_name (i := 1) scName.nd rfl (by first | exact Or.inl rfl | exact Or.inr rfl))) (fun _ _ _ _ _ => pts_nil) (fun _ _ _ _ _ => (pe_cmpR op_in_str (pv 1) (pe_glob (v := .str "abcdefghijklmnopqrstuvwxyz") rfl T.c_LETTERS.choose_spec ⟨_, rfl⟩) (by with_unfolding_all rfl)))) pa_nil))))), ?_⟩
  intro H B vs Ps P0 hs hp ⟨x, hP, ⟨h1, h2, h3⟩, hP0⟩ D q
  subst hP hP0
  obtain ⟨v, rfl, h0⟩ := one_of hp
  refine q_when (m := 0) (b := false) (at0 hs) ?_ (fun z => by cases z) fun _ B' H' a' s' => ?_
  · refine (et_or (b := false) (et_not (et_test (ev_cb (ea_cons (ev_var rfl h0) (ea_cons (ev_c (P := VV (.ty "str")) rfl) ea_nil)) (rc_isi (d := .str x) (T := "str") rfl)))) fun _ => EvT.to (et_not (et_test (ev_chain (K := K) (b := true) (b' := true) (P3 := dI K 8) (ev_int (K := K)) (ev_cb (ea_cons (ev_var rfl h0) ea_nil) (rc_lenS (by omega))) ?_ (fun _ => ?_) fun _ => ?_))) rfl).to rfl
    · exact (rv_I0b (g := fun i j => decide (i < j)) (i := 0) (j := (x.length : Nat))).to3 (by simp; omega)
    · exact ev_c (Dp.int 8)
    · exact (rv_I0b (g := fun i j => decide (i ≤ j)) (i := (x.length : Nat)) (j := 8)).to3 (by simp; omega)
  · refine s_ret a' ((ev_cb (ea_cons (ev_lo (ev_lc1 (K := K) (c := 0) (fun s => dB K (within s letters)) (es_str (ev_var rfl (dd_up h0 s'))).s (by rw [signs_len]; have e : x.length = x.cps.size := rfl; omega)
      fun y v B1 l hy s1 hv => ⟨_, tg_name, rfl, ev_op (ev_var rfl hv) (ev_str (K := K)) rv_inStr⟩)) ea_nil) (rc_allM (fun s => within s letters) (signs x))).to (P' := dB K true) (by rw [List.all_eq_true.mpr h3])) fun v B' H' a s hv => q _ v B' H' a hv
theorem map_ttE {w : Wd} {n m : Nat} {te : TE} {σ : L2.St} {f : PyData → PyData} {xs : List PyData} (h : Ev w n m te σ B (TuP K (xs.map fun x => DD K (f x)))) : Ev w n m te σ B (DD K (.tuple (xs.map f))) := h.imp fun _ _ q => map_tt q
theorem scTup : FnScope ["thing", "part"] ["thing"] (defScope (top 6)) := ⟨rfl, rfl, rfl, by decide +kernel, rfl, by decide +kernel, by decide +kernel⟩
theorem sq_of {d : PyData} {v : V} (h : (DD K d).p v B) (hs : isSeq d = true) : ∃ ds : List PyData, (d = .list ds ∨ d = .tuple ds) ∧ (SqP K (ds.map (DD K))).p v B := by
  cases d with
  | list ds => exact ⟨ds, .inl rfl, .inl (dd_ll h)⟩
  | tuple ds => exact ⟨ds, .inr rfl, .inr (dd_tt h)⟩
  | _ => cases hs
theorem tup_body {H B : Hp} (hs : Same B H) {v : V} {d : PyData} (h0 : (DD K d).p v B) (h1 : noDict d = true) (h2 : wide d)
    {te : TE} (ht : ∀ B1 v1 d1 l, Same B B1 → (DD K d1).p v1 B1 → noDict d1 = true → wide d1 → lev d1 < lev d → Ev w0 l (l + 0) te [some v, some v1] B1 (DD K (tupD d1))) {Rt : V → Hp → Prop} (q : ∀ n v B' H', At (fun _ => False) w0 n B H B' H' → (DD K (tupD d)).p v B' → Rt v H') {D : Ends} (hD : D.rt = Rt) :
    tRet (tIf (tTest (tCB (rIsiT K) (tCons (tVar 0) (tCons (tTup (tCons (tC (.ty "list")) (tCons (tC (.ty "tuple")) tNil))) tNil))))
      (tCB (fun xs H Q => ∃ p ys, xs = [V.ref p] ∧ ((SqL K H p ys ∧ ∀ l, H l = none → Q (.ref l) (upd H l (.tup ys))) ∨ (SqT K H p ys ∧ Q (.ref p) H))) (tCons (tLc (iAny K (tVar 0)) (gName 1) tYes te [1]) tNil)) (tVar 0)) D [some v, none] H := by
  subst hD
  refine s_ret (at0 hs) (ev_if (l := 0) (et_test (ev_isiLT (ev_var rfl h0) (.inl ⟨rfl, rfl⟩) (dict_of_no h1))) (fun hq => ?_) fun hq => (ev_var rfl ?_)) fun v B' H' a s hv => q _ v B' H' a hv
  · obtain ⟨ds, hd, hsq⟩ := sq_of h0 hq
    have hds : noDicts ds = true ∧ ds.length ≤ 90000 ∧ wides ds ∧ levs ds < lev d ∧ tupD d = .tuple (ds.map tupD) := by
      rcases hd with rfl | rfl
      · exact ⟨by simpa [noDict] using h1, h2.1, h2.2, Nat.lt_succ_self _, by rw [tupD, tupAll_map]⟩
      · exact ⟨by simpa [noDict] using h1, h2.1, h2.2, Nat.lt_succ_self _, by rw [tupD, tupAll_map]⟩
    obtain ⟨g1, g2, g3, g4, g5⟩ := hds
    rw [g5]
    refine Ev.z (n := 0) (m := 0 + ds.length * 0) ?_
    refine map_ttE (f := tupD) (ev_cb (ea_cons (ev_lo (ev_lc1 (K := K) (c := 0) (fun d => DD K (tupD d)) (es_any (ev_var rfl hsq)).s g2 fun x u B1 l hx s1 hu =>
      ⟨_, tg_name, rfl, ht B1 u x l s1 hu (noDicts_of g1 hx) (wides_of g3 hx) (Nat.lt_of_le_of_lt (levs_le hx) g4)⟩)) ea_nil) rc_tupL)
  · have e : tupD d = d := by
      cases d <;> first | rfl | (cases hq)
    rw [e]
    exact h0
theorem calTup (T : Txt K mg) : ∀ n, Cal P w K mg base (n + 1) "tupled" ["thing"] (spF (GTup K n)) := by
  intro n
  induction n with
  | zero =>
    obtain ⟨fd, F⟩ := T.f_tupled
    have C_tupled : Cal P w K mg base 0 "tupled" ["thing"] (fun _ _ _ _ => False) := ⟨_, fd, ⟨fun _ _ _ _ h => h.elim, fun _ _ _ _ _ _ _ _ _ _ _ _ _ h => h.elim⟩, T.g_tupled, F.kp, F.bindsN fun _ _ _ _ _ _ us hl => match us, hl with | [_], _ => rfl⟩
    refine cal_of (k := 0) F T.g_tupled scTup (fun Ps P ⟨_, e, _⟩ => by rw [e] <;> rfl) (fun _ _ _ _ _ _ us hl => match us, hl with | [_], _ => rfl) fun cdv A o s H E hr => ?_
    refine ⟨_, (pss_one (ps_ret (pe_ifExp (pt_val (pe_callB (kc_isiT (K := K) rfl) (by rfl) T.m_isinstance (by decide +kernel) (pa_cons (pv 0) (pa_cons (pe_tup (pa_cons (pe_bltn (v := .ty "list") (by rfl) T.m_list (by decide +kernel) rfl) (pa_cons (pe_bltn (v := .ty "tuple") (by rfl) T.m_tuple (by decide +kernel) rfl) pa_nil))) pa_nil)))) (pe_callTy (kc_tup (K := K) rfl) (by rfl) T.m_tuple (by decide +kernel) (pa_cons (pe_lc (own := [("part", 1)]) (by rfl) scTup.nd (kp_any (K := K) rfl (pv 0)) (blkOk_by (by kernel_rfl)) (fun _ _ _ _ _ => (pg_name (i := 1) scTup.nd rfl (by first | exact Or.inl rfl | exact Or.inr rfl))) (fun _ _ _ _ _ => pts_nil) (fun _ _ _ _ _ => (pe_cal C_tupled hr (pa_cons (pv 1) pa_nil)))) pa_nil)) (pv 0)))), ?_⟩
    intro H B vs Ps P0 hs hp ⟨d, hP, h1, h2, h3, hP0⟩ D q
    subst hP hP0
    obtain ⟨v, rfl, h0⟩ := one_of hp
    refine tup_body hs h0 h1 h2 (fun B1 v1 d1 l s1 hv n1 w1 hl => absurd hl (by omega)) q rfl
  | succ n ih =>
    obtain ⟨fd, F⟩ := T.f_tupled
    have C_tupled := ih
    refine cal_of (k := n + 1) F T.g_tupled scTup (fun Ps P ⟨_, e, _⟩ => by rw [e] <;> rfl) (fun _ _ _ _ _ _ us hl => match us, hl with | [_], _ => rfl) fun cdv A o s H E hr => ?_
    refine ⟨_, (pss_one (ps_ret (pe_ifExp (pt_val (pe_callB (kc_isiT (K := K) rfl) (by rfl) T.m_isinstance (by decide +kernel) (pa_cons (pv 0) (pa_cons (pe_tup (pa_cons (pe_bltn (v := .ty "list") (by rfl) T.m_list (by decide +kernel) rfl) (pa_cons (pe_bltn (v := .ty "tuple") (by rfl) T.m_tuple (by decide +kernel) rfl) pa_nil))) pa_nil)))) (pe_callTy (kc_tup (K := K) rfl) (by rfl) T.m_tuple (by decide +kernel) (pa_cons (pe_lc (own := [("part", 1)]) (by rfl) scTup.nd (kp_any (K := K) rfl (pv 0)) (blkOk_by (by kernel_rfl)) (fun _ _ _ _ _ => (pg_name (i := 1) scTup.nd rfl (by first | exact Or.inl rfl | exact Or.inr rfl))) (fun _ _ _ _ _ => pts_nil) (fun _ _ _ _ _ => (pe_cal C_tupled hr (pa_cons (pv 1) pa_nil)))) pa_nil)) (pv 0)))), ?_⟩
    intro H B vs Ps P0 hs hp ⟨d, hP, h1, h2, h3, hP0⟩ D q
    subst hP hP0
    obtain ⟨v, rfl, h0⟩ := one_of hp
    refine tup_body hs h0 h1 h2 (fun B1 v1 d1 l s1 hv n1 w1 hl => ev_fn (ea_cons (ev_var rfl hv) ea_nil) ⟨d1, rfl, n1, w1, by omega, rfl⟩) q rfl
end
end Pk


set_option Elab.async false
set_option linter.all false
set_option maxRecDepth 100000
set_option maxHeartbeats 4000000
/-! PkF3: set_of, kinds_at, stretches, blocks_of. -/
namespace Pk
open PySem PySem.Spec PyProof.Rows L2 PkH
section
variable {S0 : Addr → Prop} {w : Wd} {n m l : Nat} {K : PySem.W.Frag} {B0 H0 B H : Hp} {D : Ends} {σ : L2.St} {te tj : TE} {P : Pr}
/-- x[j] = e, x a list of one's own -/
theorem s_setI {i : Nat} {a : Addr} {vs : List V} {j : Int} {k : Nat} (t : At S0 (wl w a (.lst vs)) n B0 H0 B H) (hw : ¬ w.S a) (h0 : H0 a = none) (hi : σ[i]? = some (some (.ref a))) (h : Ev (wl w a (.lst vs)) n m te σ B P) (hj : Ev (wl w a (.lst vs)) m l tj σ B (dI K j)) (hk : ixN vs.length j = some k)
    (q : ∀ v B' H', At S0 (wl w a (.lst (vs.set k v))) l B0 H0 B' H' → Same B B' → P.p v B' → D.nx σ H') : tAsg te (gSub (tVar i) tj rSetL) D σ H := by
  refine t.use (Q := fun x H1 => gSub (tVar i) tj rSetL x σ H1 D.nx) (h B (Same.refl B)) fun v B' H' t' s' hv => ?_
  refine ⟨.ref a, hi, ?_⟩
  refine t'.use (Q := fun y H2 => rSetL (.ref a) y v H2 fun H3 => D.nx σ H3) (hj B' s') fun y B2 H2 t2 s2 hy => ?_
  exact ⟨a, vs, j, k, rfl, dd_int hy, t2.here, hk, q v B2 _ (t2.set hw h0) (s'.trans s2) (P.mono v B' B2 s2 hv)⟩
end
/-- a list, a tuple of texts; a tuple of ints -/
def setInts (K : PySem.W.Frag) (ns : List Int) : Pr := ⟨fun v B => ∃ ms : List Int, ms.Pairwise (· < ·) ∧ (∀ k, k ∈ ms ↔ k ∈ ns) ∧ (DD K (.tuple (ms.map .int))).p v B, fun v B B' e ⟨ms, h1, h2, h3⟩ => ⟨ms, h1, h2, (DD K _).mono v B B' e h3⟩⟩
def GSet (K : PySem.W.Frag) : List Pr → Pr → Prop := fun Ps P => (∃ xs : List Str, (Ps = [LiP K (xs.map (dS K))] ∨ Ps = [TuP K (xs.map (dS K))]) ∧ xs.length < 64 ∧ P = DD K (eTS (setOf xs))) ∨ ∃ ns : List Int, Ps = [TuP K (ns.map (dI K))] ∧ ns.length < 64 ∧ P = setInts K ns
/-- the kinds of the rows in which a name stands -/
def kindsAt (name : Str) (rows : List (List Str × Str)) : List Str := setOf ((rows.filter fun r => decide (name ∈ r.1)).map (·.2))
def GKinds (K : PySem.W.Frag) : List Pr → Pr → Prop := fun Ps P => ∃ name rows, Ps = [dS K name, LiP K (rows.map fun r => DD K (eRow r))] ∧ rows.length < 64 ∧ P = DD K (eTS (kindsAt name rows))
section
variable {P : Program} {w : World} {K : PySem.W.Frag} {mg : Str → Option Value} {base : Heap} {B : Hp}
theorem scSet : FnScope ["things"] ["things"] (defScope (top 7)) := ⟨rfl, rfl, rfl, by decide +kernel, rfl, by decide +kernel, by decide +kernel⟩
theorem calSet (T : Txt K mg) : Cal P w K mg base 1 "set_of" ["things"] (spF (GSet K)) := by
  obtain ⟨fd, F⟩ := T.f_set_of
  refine cal_of (k := 0) F T.g_set_of scSet (fun Ps P h => by rcases h with ⟨xs, e | e, _⟩ | ⟨ns, e, _⟩ <;> rw [e] <;> rfl) (fun _ _ _ _ _ _ us hl => match us, hl with | [_], _ => rfl) fun cdv A o s H E hr => ?_
  refine ⟨_, (pss_one (ps_ret (pe_callTy (kc_tup (K := K) rfl) (by rfl) T.m_tuple (by decide +kernel) (pa_cons (pe_callB (cr_sortSet rfl) (by rfl) T.m_sorted (by decide +kernel) (pa_cons (pe_callTy (cr_setOf rfl) (by rfl) T.m_set (by decide +kernel) (pa_cons (pv 0) pa_nil)) pa_nil)) pa_nil)))), ?_⟩
  intro H B vs Ps P0 hs hp hG D q
  rcases hG with ⟨xs, hP, hl, rfl⟩ | ⟨ns, rfl, hl, rfl⟩
  · rcases hP with rfl | rfl
    · obtain ⟨v, rfl, h0⟩ := one_of hp
      exact s_ret (m := 0) (at0 hs) ((ev_cb (ea_cons (ev_lo (ev_cb (ea_cons (ev_cb (ea_cons (ev_var rfl h0) ea_nil) (rc_setL (by omega))) ea_nil) (rc_sortTx hl))) ea_nil) rc_tupL).imp fun _ _ z => map_tt z) fun v B' H' a s hv => q _ v B' H' a hv
    · obtain ⟨v, rfl, h0⟩ := one_of hp
      exact s_ret (m := 0) (at0 hs) ((ev_cb (ea_cons (ev_lo (ev_cb (ea_cons (ev_cb (ea_cons (ev_var rfl h0) ea_nil) (rc_setT (by omega))) ea_nil) (rc_sortTx hl))) ea_nil) rc_tupL).imp fun _ _ z => map_tt z) fun v B' H' a s hv => q _ v B' H' a hv
  · obtain ⟨v, rfl, h0⟩ := one_of hp
    refine s_ret (m := 0) (P := setInts K ns) (at0 hs) (ev_cb (ea_cons (ev_cb (ea_cons (ev_cb (ea_cons (ev_var rfl h0) ea_nil) (rc_setI (by omega))) ea_nil) (rc_sortI (K := K) hl)) ea_nil) fun w n B us hu H c Q q => ?_) fun v B' H' a s hv => q _ v B' H' a hv
    obtain ⟨u, rfl, ms, h1, h2, h3⟩ := one_of hu
    exact rc_tupL (K := K) w n B [u] (.cons (lo_li h3) .nil) H c Q fun v B' H' g c' hv => q v B' H' g c' ⟨ms, h1, h2, map_tt hv⟩
theorem scKinds : FnScope ["name", "rows", "names", "kind"] ["name", "rows"] (defScope (top 45)) := ⟨rfl, rfl, rfl, by decide +kernel, rfl, by decide +kernel, by decide +kernel⟩
theorem calKinds (T : Txt K mg) : Cal P w K mg base 2 "kinds_at" ["name", "rows"] (spF (GKinds K)) := by
  obtain ⟨fd, F⟩ := T.f_kinds_at
  have C_set_of := calSet (P := P) (w := w) (base := base) T
  refine cal_of (k := 1) F T.g_kinds_at scKinds (fun Ps P ⟨_, _, e, _⟩ => by rw [e] <;> rfl) (fun _ _ _ _ _ _ us hl => match us, hl with | [_, _], _ => rfl) fun cdv A o s H E hr => ?_
  refine ⟨_, (pss_one (ps_ret (pe_cal C_set_of hr (pa_cons (pe_lc (own := [("names", 2), ("kind", 3)]) (by rfl) scKinds.nd (kp_list (K := K) rfl (pv 1)) (blkOk_by (by kernel_rfl)) (fun _ _ _ _ _ => (kg_tup (K := K) (n := 2) rfl rfl (pgs_cons (pg_name (i := 2) scKinds.nd rfl (by first | exact Or.inl rfl | exact Or.inr rfl)) (pgs_cons (pg_name (i := 3) scKinds.nd rfl (by first | exact Or.inl rfl | exact Or.inr rfl)) pgs_nil)))) (fun _ _ _ _ _ => (pts_one (pt_cmpR (ko_in (K := K) rfl) (pv 0) (pv 2) (by with_unfolding_all rfl)))) (fun _ _ _ _ _ => (pv 3))) pa_nil)))), ?_⟩
  intro H B vs Ps P0 hs hp ⟨name, rows, hP, hl, hP0⟩ D q
  subst hP hP0
  obtain ⟨v, u, rfl, h0, h1⟩ := two_at hp
  refine s_ret (P := DD K (eTS (kindsAt name rows))) (at0 hs) (ev_fn (ea_cons (ev_lo (ev_lc (K := K) (c := 0) (fun r : List Str × Str => decide (name ∈ r.1)) (fun r : List Str × Str => dS K r.2) (es_list (ev_var rfl h1)).s (by omega) ?turn)) ea_nil) (.inl ⟨(rows.filter fun r => decide (name ∈ r.1)).map (·.2), .inl (by rw [List.map_map] <;> rfl), ?_, rfl⟩)) fun v B' H' a s hv => q _ v B' H' a hv
  case turn =>
    intro x v B1 k hx s1 hy
    obtain ⟨a, v1, v2, rfl, hT, e1, e2⟩ := two_row hy
    exact ⟨_, tg_two hT, rfl, et_test (ev_op (ev_var rfl (dd_up h0 s1)) (ev_var rfl (tt_strs e1)) rv_inT), fun _ => ev_var rfl e2⟩
  · rw [List.length_map]
    exact Nat.lt_of_le_of_lt (List.length_filter_le _ _) hl
end
end Pk


set_option Elab.async false
set_option linter.all false
set_option maxRecDepth 100000
set_option maxHeartbeats 4000000
/-! PkF4: stretches, blocks_of, plain_of. -/
namespace Pk
open PySem PySem.Spec PyProof.Rows L2 PkH
/-- a kind -/
def okKind (k : Str) : Prop := k = "sum" ∨ k = "max"
theorem okKind.ok {k : Str} (h : okKind k) : PyData.strOk k = true := by
  rcases h with rfl | rfl <;> decide +kernel
def strStep (f : List (Str × List Str)) (p : Str × Str) : List (Str × List Str) :=
  match f.getLast? with
  | some b => if b.1 = p.1 then f.dropLast ++ [(p.1, b.2 ++ [p.2])] else f ++ [(p.1, [p.2])]
  | none => [(p.1, [p.2])]
def stretch (line : List (Str × Str)) : List (Str × List Str) := line.foldl strStep []
def blocks (line : List (Str × Str)) : List (Str × List Str) := (stretch line).map fun b => (b.1, setOf b.2)
def eBlk (b : Str × List Str) : PyData := .tuple [.str b.1, eTS b.2]
def eBlks (bs : List (Str × List Str)) : PyData := .tuple (bs.map eBlk)
abbrev bP (K : PySem.W.Frag) (b : Str × List Str) : Pr := TuP K [dS K b.1, TuP K (b.2.map (dS K))]
def plainP (line : List (Str × Str)) : List (Str × Str) := (blocks line).flatMap fun b => b.2.map fun l => (b.1, l)
def GBlk (K : PySem.W.Frag) : List Pr → Pr → Prop := fun Ps P => ∃ line : List (Str × Str), Ps = [LiP K (line.map fun p => DD K (eSS p))] ∧ line.length < 64 ∧ (∀ p ∈ line, okKind p.1) ∧ P = DD K (eBlks (blocks line))
def GPlain (K : PySem.W.Frag) : List Pr → Pr → Prop := fun Ps P => ∃ line : List (Str × Str), Ps = [LiP K (line.map fun p => DD K (eSS p))] ∧ line.length < 64 ∧ (∀ p ∈ line, okKind p.1) ∧ P = DD K (eLine (plainP line))
theorem strStep_snoc (f : List (Str × List Str)) (b : Str × List Str) (p : Str × Str) : strStep (f ++ [b]) p = if b.1 = p.1 then f ++ [(p.1, b.2 ++ [p.2])] else (f ++ [b]) ++ [(p.1, [p.2])] := by
  unfold strStep
  rw [List.getLast?_concat]
  simp only [List.dropLast_concat]
theorem strStep_len (f : List (Str × List Str)) (p : Str × Str) : (strStep f p).length ≤ f.length + 1 := by
  rcases List.eq_nil_or_concat f with rfl | ⟨f', b, rfl⟩
  · exact Nat.le_refl _
  · rw [List.concat_eq_append, strStep_snoc]
    split <;> simp
theorem stretch_len : ∀ (line : List (Str × Str)) (f : List (Str × List Str)), (line.foldl strStep f).length ≤ f.length + line.length
  | [], f => Nat.le_add_right _ _
  | p :: line, f => by
    rw [List.foldl_cons, List.length_cons]
    have a := stretch_len line (strStep f p)
    have b := strStep_len f p
    omega
/-- all labels of the blocks -/
def labs (f : List (Str × List Str)) : Nat := (f.map fun b => b.2.length).sum
theorem strStep_labs (f : List (Str × List Str)) (p : Str × Str) : labs (strStep f p) = labs f + 1 := by
  unfold labs
  rcases List.eq_nil_or_concat f with rfl | ⟨f', b, rfl⟩
  · rfl
  · rw [List.concat_eq_append, strStep_snoc]
    split
    · simp [Nat.add_assoc]
    · simp [Nat.add_assoc]
theorem stretch_labs : ∀ (line : List (Str × Str)) (f : List (Str × List Str)), labs (line.foldl strStep f) = labs f + line.length
  | [], f => rfl
  | p :: line, f => by
    rw [List.foldl_cons, List.length_cons, stretch_labs line, strStep_labs]
    omega
theorem strStep_kind {f : List (Str × List Str)} {p : Str × Str} (h : ∀ b ∈ f, okKind b.1) (hp : okKind p.1) : ∀ b ∈ strStep f p, okKind b.1 := by
  rcases List.eq_nil_or_concat f with rfl | ⟨f', c, rfl⟩
  · intro b hb
    have e : b = (p.1, [p.2]) := by simpa [strStep] using hb
    rw [e]
    exact hp
  · rw [List.concat_eq_append] at h ⊢
    rw [strStep_snoc]
    split
    · intro b hb
      rcases List.mem_append.mp hb with hb | hb
      · exact h b (List.mem_append_left _ hb)
      · rw [List.mem_singleton.mp hb]
        exact hp
    · intro b hb
      rcases List.mem_append.mp hb with hb | hb
      · exact h b hb
      · rw [List.mem_singleton.mp hb]
        exact hp
theorem stretch_kind : ∀ (line : List (Str × Str)) (f : List (Str × List Str)), (∀ b ∈ f, okKind b.1) → (∀ p ∈ line, okKind p.1) → ∀ b ∈ line.foldl strStep f, okKind b.1
  | [], f, h, _ => h
  | p :: line, f, h, hp => stretch_kind line (strStep f p) (strStep_kind h (hp p List.mem_cons_self)) fun q hq => hp q (List.mem_cons_of_mem _ hq)
theorem labs_mem {b : Str × List Str} : ∀ {f : List (Str × List Str)}, b ∈ f → b.2.length ≤ labs f
  | c :: f, h => by
    have e : labs (c :: f) = c.2.length + labs f := by
      unfold labs
      rw [List.map_cons, List.sum_cons]
    rcases List.mem_cons.mp h with rfl | h
    · omega
    · have q := labs_mem h
      omega
theorem foldl_take {α β : Type} (g : β → α → β) (xs : List α) (d : β) {i : Nat} {x : α} (h : xs[i]? = some x) : (xs.take (i + 1)).foldl g d = g ((xs.take i).foldl g d) x := by
  rw [take_next h, List.foldl_append] <;> rfl
theorem ps_last {vs : List V} {Ps : List Pr} {P1 : Pr} {B : Hp} (h : PsAt vs (Ps ++ [P1]) B) : ∃ us v, vs = us ++ [v] ∧ PsAt us Ps B ∧ P1.p v B := by
  have hl := ps_len h
  rcases List.eq_nil_or_concat vs with rfl | ⟨us, v, rfl⟩
  · simp at hl
  · rw [List.concat_eq_append] at hl h ⊢
    rw [List.length_append, List.length_append] at hl
    have e : us.length = Ps.length := by simpa using hl
    refine ⟨us, v, rfl, ?_, ?_⟩
    · have q := ps_take h us.length
      rw [List.take_left' rfl, e, List.take_left' rfl] at q
      exact q
    · obtain ⟨Q, e1, e2⟩ := ps_get h (i := us.length) (v := v) (by simp)
      rw [e] at e1
      simp at e1
      rw [e1]
      exact e2
theorem set_last {us : List V} {v u : V} : (us ++ [v]).set us.length u = us ++ [u] := by
  rw [List.set_append_right _ _ (Nat.le_refl _), Nat.sub_self] <;> rfl
theorem shaped_str {x : Str} (h : PyData.strOk x = true) : SeqAt.shaped (.str x) = true := by simp [SeqAt.shaped, PyData.canLay0, PyData.depth, h]
theorem ixN_last (n : Nat) : ixN (n + 1) (-1) = some n := by
  unfold ixN
  rw [if_neg (by omega), if_pos (by omega)]
  exact congrArg some (by omega)
theorem eqv_str (a b : Str) : PyData.eqv (.str a) (.str b) = decide (a = b) := by
  rfl
section
variable {P : Program} {w : World} {K : PySem.W.Frag} {mg : Str → Option Value} {base : Heap} {B : Hp}
theorem scStr : FnScope ["line", "found", "kind", "label", "names"] ["line"] (defScope (top 37)) := ⟨rfl, rfl, rfl, by decide +kernel, rfl, by decide +kernel, by decide +kernel⟩
theorem calStr (T : Txt K mg) : Cal P w K mg base 2 "stretches" ["line"] (spF (GBlk K)) := by
  obtain ⟨fd, F⟩ := T.f_stretches
  have C_set_of := calSet (P := P) (w := w) (base := base) T
  refine cal_of (k := 1) F T.g_stretches scStr (fun Ps P ⟨_, e, _⟩ => by rw [e] <;> rfl) (fun _ _ _ _ _ _ us hl => match us, hl with | [_], _ => rfl) fun cdv A o s H E hr => ?_
  refine ⟨_, (pss_cons (ps_set (i := 1) scStr.nd rfl (by first | exact Or.inl rfl | exact Or.inr rfl) (pe_lst pa_nil))
    (pss_cons (ps_for (passes_of rfl) rfl (kp_list (K := K) rfl (pv 0)) (kg_tup (K := K) (n := 2) rfl rfl (pgs_cons (pg_name (i := 2) scStr.nd rfl (by first | exact Or.inl rfl | exact Or.inr rfl)) (pgs_cons (pg_name (i := 3) scStr.nd rfl (by first | exact Or.inl rfl | exact Or.inr rfl)) pgs_nil))) (pss_one (ps_if (PW.pt (pw_or (pt_cmpR op_eq (pe_callB (kc_len (K := K) rfl) (by rfl) T.m_len PySem.boot_len (pa_cons (pv 1) pa_nil)) pe_int (nomark _)) (pw_or1 (pt_cmpR (ko_ne (K := K) rfl hr.units) (pe_ix (kx_tup (K := K) rfl) (pe_ix (kx_list (K := K) rfl) (pv 1) (pe_un un_neg pe_int) (fun _ _ => rfl)) pe_int (fun _ _ => rfl)) (pv 2) (nomark _))))) (pss_one (ps_expr (ke_bm (K := K) rfl (pe_bm PySem.F.plainAttrs_list PySem.F.slot_list_append PySem.F.type_list_append mt_append (pv 1) (pa_cons (pe_tup (pa_cons (pv 2) (pa_cons (pe_tup (pa_cons (pv 3) pa_nil)) pa_nil))) pa_nil))))) (pss_one (ps_asg (pe_tup (pa_cons (pv 2) (pa_cons (pe_tup (ka_star (K := K) rfl (pe_ix (kx_tup (K := K) rfl) (pe_ix (kx_list (K := K) rfl) (pv 1) (pe_un un_neg pe_int) (fun _ _ => rfl)) pe_int (fun _ _ => rfl)) (pa_cons (pv 3) pa_nil))) pa_nil))) (pg_sub (pv 1) (pe_un un_neg pe_int) set_list))))))
    (pss_one (ps_ret (pe_callTy (kc_tup (K := K) rfl) (by rfl) T.m_tuple (by decide +kernel) (pa_cons (pe_lc (own := [("kind", 2), ("names", 4)]) (by rfl) scStr.nd (kp_list (K := K) rfl (pv 1)) (blkOk_by (by kernel_rfl)) (fun _ _ _ _ _ => (kg_tup (K := K) (n := 2) rfl rfl (pgs_cons (pg_name (i := 2) scStr.nd rfl (by first | exact Or.inl rfl | exact Or.inr rfl)) (pgs_cons (pg_name (i := 4) scStr.nd rfl (by first | exact Or.inl rfl | exact Or.inr rfl)) pgs_nil)))) (fun _ _ _ _ _ => pts_nil) (fun _ _ _ _ _ => (pe_tup (pa_cons (pv 2) (pa_cons (pe_cal C_set_of hr (pa_cons (pv 4) pa_nil)) pa_nil))))) pa_nil)))))), ?_⟩
  intro H B vs Ps P0 hs hp ⟨line, hP, hl, hk, hP0⟩ D q
  subst hP hP0
  obtain ⟨lv, rfl, h0⟩ := one_of hp
  refine q_nil (at0 hs) fun a H1 t1 hw ha => ?_
  refine q_for (xs := line) (Y := fun p => DD K (eSS p)) (fun i Bs u k σ B1 => ∃ vs x2 x3, u = wl w0 a (.lst vs) ∧ PsAt vs (((line.take i).foldl strStep []).map (bP K)) B1 ∧ σ = [some lv, some (.ref a), x2, x3, none]) t1 (m := 0) (es_list (K := K) (ev_var (i := 0) rfl h0)) (fun B1 s1 => ⟨[], none, none, rfl, .nil, rfl⟩) ?turn ?done
  case turn =>
    intro i p v Bs u k σ' B1 B2 H2 ex s1 s2 ⟨vs, x2, x3, hu, hps, hσ⟩ t s3 hv
    subst hu hσ
    obtain ⟨pa, v1, v2, rfl, hT, e1, e2⟩ := two_ss hv
    refine tg_two hT H2 _ t.c.sub ?_
    have hps2 := psAt_same s3 hps
    have hlen := ps_len hps2
    have hll : vs.length ≤ 64 := by
      rw [hlen, List.length_map]
      have q := stretch_len (line.take i) []
      rw [List.length_take] at q
      simp at q
      omega
    have hnext := foldl_take strStep line [] ex
    have hf := stretch_kind (line.take i) [] (fun b hb => by cases hb) fun q hq => hk q (List.mem_of_mem_take hq)
    have hlb := stretch_labs (line.take i) []
    have htk : (line.take i).length ≤ 64 := by rw [List.length_take]; omega
    generalize (line.take i).foldl strStep [] = f at hps2 hnext hlen hf hlb
    have fin : ∀ us B' H', At (fun _ => False) (wl w0 a (.lst us)) k B H B' H' → Same B2 B' → PsAt us ((strStep f p).map (bP K)) B' →
        Lp (fun _ => False) B H Bs (fun i Bs u k σ B1 => ∃ vs x2 x3, u = wl w0 a (.lst vs) ∧ PsAt vs (((line.take i).foldl strStep []).map (bP K)) B1 ∧ σ = [some lv, some (.ref a), x2, x3, none]) (i + 1) [some lv, some (.ref a), some v1, some v2, none] H' := fun us B' H' t' s' h' =>
      ⟨_, k, B', t', (s2.trans s3).trans s', us, some v1, some v2, rfl, by rw [hnext]; exact h', rfl⟩
    rcases List.eq_nil_or_concat f with rfl | ⟨f', b, ef⟩
    · have ev : vs = [] := by cases hps2; rfl
      subst ev
      refine s_if (m := k) (b := true) t (et_or (a := true) (b := false) (et_test ((ev_op (ev_lenW rfl) (ev_int (K := K)) rv_eqI).to (by rfl))) fun z => by cases z) (fun _ B' H' t' s' => ?_) fun z => by cases z
      exact s_app (m := k) t' hw ha rfl (by simp) (ev_tup (K := K) (ea_cons (ev_var rfl (dd_up e1 s')) (ea_cons (ev_tup (K := K) (ea_cons (ev_var rfl (dd_up e2 s')) ea_nil)) ea_nil))) fun v B3 H3 t3 s4 hv => fin _ B3 H3 t3 (s'.trans s4) (.cons hv .nil)
    · rw [List.concat_eq_append] at ef
      subst ef
      rw [List.map_append, List.map_cons, List.map_nil] at hps2
      obtain ⟨us, lst, rfl, hus, hb⟩ := ps_last hps2
      have hat : atI (us ++ [lst]) (-1) = some lst := atI_last us lst
      have hix : ∀ (B3 : Hp), Same B2 B3 → Ev (wl w0 a (.lst (us ++ [lst]))) k k (tOp (rIxL K) (tVar 1) (tUn (rU fun i => V.int (-i)) (tC (.int 1)))) [some lv, some (.ref a), some v1, some v2, none] B3 (bP K b) := fun B3 s' =>
        ev_ixW rfl (ev_un (ev_int (K := K)) ru_neg) hat (Pr.up hb s')
      have t1 : EvT (wl w0 a (.lst (us ++ [lst]))) k k _ [some lv, some (.ref a), some v1, some v2, none] B2 (!decide (b.1 = p.1)) := et_or (a := false) (b := !decide (b.1 = p.1)) (et_test ((ev_op (ev_lenW (K := K) (i := 1) rfl) (ev_int (K := K)) (rv_eqI (a := ((us ++ [lst]).length : Nat)) (b := 0))).to (by
        rw [decide_eq_false (by rw [List.length_append, List.length_singleton]; omega)]))) fun _ => et_test ((ev_op (ev_op (hix B2 (Same.refl _)) (ev_int (K := K)) (rv_ixT (i := 0) rfl)) (ev_var (i := 2) rfl e1) (rv_neD (K := K) (d := .str b.1) (e := .str p.1) (shaped_str (hf _ (by simp)).ok) (shaped_str (hk p (List.mem_of_getElem? ex)).ok))).to (by rw [eqv_str]))
      refine s_if (m := k) t t1 (fun hb' B' H' t' s' => ?_) fun hb' B' H' t' s' => ?_
      · have hne : ¬ b.1 = p.1 := by simpa using hb'
        refine s_app (m := k) t' hw ha rfl (by omega) (ev_tup (K := K) (ea_cons (ev_var rfl (dd_up e1 s')) (ea_cons (ev_tup (K := K) (ea_cons (ev_var rfl (dd_up e2 s')) ea_nil)) ea_nil))) fun v B3 H3 t3 s4 hv => fin _ B3 H3 t3 (s'.trans s4) ?_
        rw [strStep_snoc, if_neg hne, List.map_append, List.map_append]
        exact ps_snoc (ps_snoc (psAt_same (s'.trans s4) hus) (Pr.up hb (s'.trans s4))) hv
      · have hne : b.1 = p.1 := by simpa using hb'
        refine s_setI (m := k) (l := k) (k := us.length) t' hw ha rfl (ev_tup (K := K) (ea_cons (ev_var rfl (dd_up e1 s')) (ea_cons (ev_tup (K := K) (ea_starT (ev_op (hix B' s') (ev_int (K := K)) (rv_ixT (i := 1) rfl)) (ea_cons (ev_var rfl (dd_up e2 s')) ea_nil)) ?_) ea_nil))) (ev_un (ev_int (K := K)) ru_neg) ?_ fun v B3 H3 t3 s4 hv => ?_
        · have q := labs_mem (f := f' ++ [b]) (b := b) (by simp)
          have z : labs [] = 0 := rfl
          rw [List.length_append, List.length_map, List.length_singleton]
          omega
        · rw [List.length_append, List.length_singleton]
          exact ixN_last us.length
        · rw [set_last] at t3
          refine fin _ B3 H3 t3 (s'.trans s4) ?_
          rw [strStep_snoc, if_pos hne, List.map_append]
          refine ps_snoc (psAt_same (s'.trans s4) hus) ?_
          show (TuP K [dS K p.1, TuP K ((b.2 ++ [p.2]).map (dS K))]).p v B3
          rw [List.map_append]
          exact hv
  case done =>
    intro Bs u k σ' B1 H2 s1 s2 t ⟨vs, x2, x3, hu, hps, hσ⟩
    subst hu hσ
    rw [List.take_length] at hps
    have t2 := t.less hw ha
    have bn := t.outB
    have hll := stretch_len line []
    have hlb := stretch_labs line []
    have z : labs [] = 0 := rfl
    refine s_ret (P := DD K (eBlks (blocks line))) t2 ((ev_cb (ea_cons (ev_lo (ev_lc1 (K := K) (c := 0) (xs := stretch line) (fun b => DD K (eBlk (b.1, setOf b.2))) (es_list (Y := bP K) (ev_var (i := 1) rfl ⟨a, vs, rfl, sl_of upd_same, psAt_same (same_new bn) hps⟩)).s ?len2 ?turn2)) ea_nil) rc_tupL).imp fun _ _ z => ?fin2) fun v B' H' a s hv => q _ v B' H' a hv
    case len2 =>
      simp at hll
      show (line.foldl strStep []).length ≤ 90000
      omega
    case fin2 =>
      have e : eBlks (blocks line) = .tuple ((stretch line).map fun b => eBlk (b.1, setOf b.2)) := by
        unfold eBlks blocks
        rw [List.map_map] <;> rfl
      rw [e]
      exact map_tt z
    case turn2 =>
      intro b v B3 l hx s3 hv
      obtain ⟨pa, v1, v2, rfl, hT, e1, e2⟩ := two_of hv
      refine ⟨_, tg_two hT, rfl, (ev_tup (K := K) (ea_cons (ev_var rfl e1) (ea_cons (ev_fn (ea_cons (ev_var rfl e2) ea_nil) (.inl ⟨b.2, .inr rfl, ?_, rfl⟩)) ea_nil))).imp fun _ _ z => tt_dd z⟩
      have q := labs_mem hx
      have e : labs (stretch line) = labs [] + line.length := hlb
      omega
theorem scBlk : FnScope ["line"] ["line"] (defScope (top 38)) := ⟨rfl, rfl, rfl, by decide +kernel, rfl, by decide +kernel, by decide +kernel⟩
theorem calBlk (T : Txt K mg) : Cal P w K mg base 3 "blocks_of" ["line"] (spF (GBlk K)) := by
  obtain ⟨fd, F⟩ := T.f_blocks_of
  have C_stretches := calStr (P := P) (w := w) (base := base) T
  refine cal_of (k := 2) F T.g_blocks_of scBlk (fun Ps P ⟨_, e, _⟩ => by rw [e] <;> rfl) (fun _ _ _ _ _ _ us hl => match us, hl with | [_], _ => rfl) fun cdv A o s H E hr => ?_
  refine ⟨_, (pss_one (ps_ret (pe_cal C_stretches hr (pa_cons (pv 0) pa_nil)))), ?_⟩
  intro H B vs Ps P0 hs hp ⟨line, hP, hl, hk, hP0⟩ D q
  subst hP hP0
  obtain ⟨lv, rfl, h0⟩ := one_of hp
  exact s_ret (m := 0) (at0 hs) (ev_fn (ea_cons (ev_var rfl h0) ea_nil) ⟨line, rfl, hl, hk, rfl⟩) fun v B' H' a s hv => q _ v B' H' a hv
end
end Pk


set_option Elab.async false
set_option linter.all false
set_option maxRecDepth 100000
set_option maxHeartbeats 4000000
/-! Pk14: comprehensions with two fors. -/
namespace Pk
open PySem PySem.Spec PyProof.Rows L2 PySem.W
section
variable {K : PySem.W.Frag} {σ : L2.St} {B : Hp} {α β : Type} {xs : List α} {Y : α → Pr} {Z : α → β → Pr} {wi wi1 : TI} {g g1 : TG} {te : TE} {ws vs1 : List Nat}
theorem ev_lc2 (ys : α → List β) (e : α → β → Pr) (hs : EvS w0 0 0 wi σ B xs Y) (hlen : (xs.flatMap fun x => (ys x).map (e x)).length ≤ 90000)
    (ht : ∀ x v B1, x ∈ xs → Same B B1 → (Y x).p v B1 → ∃ σ2, TgAt g v (wipe σ ws) σ2 B1 ∧ wipe σ2 ws = wipe σ ws ∧ EvS w0 0 0 wi1 σ2 B1 (ys x) (Z x) ∧
      ∀ y u B2, y ∈ ys x → Same B1 B2 → (Z x y).p u B2 → ∃ σ3, TgAt g1 u (wipe σ2 vs1) σ3 B2 ∧ wipe σ3 vs1 = wipe σ2 vs1 ∧ Ev w0 0 0 te σ3 B2 (e x y)) :
    Ev w0 0 0 (tLc2 wi g tYes wi1 g1 tYes te ws vs1) σ B (LoP K (xs.flatMap fun x => (ys x).map (e x))) := fun B1 s1 H c1 Q q =>
  hs B1 s1 H c1 _ fun J B2 H2 g2 c2 wk D hD => by
    have hDS : ¬ w0.S D := fun z => z
    generalize hT : (xs.flatMap fun x => (ys x).map (e x)) = tot at hlen q
    refine ⟨fun i k H' => k = xs.length - i ∧ i ≤ xs.length ∧ ∃ Bi us pre, Gr w0.S B2 H2 Bi H' ∧ Ctx w0 0 Bi H' ∧ H' D = some (.lst us) ∧ Bi D = none ∧ PsAt us pre Bi ∧ pre ++ ((xs.drop i).flatMap fun x => (ys x).map (e x)) = tot, ⟨xs.length, by simp, Nat.zero_le _, B2, [], [], Gr.refl.mut hD, c2.mut (c2.sub.free hD) hDS, upd_same, c2.sub.free hD, .nil, hT⟩, ?_⟩
    rintro i k H' ⟨rfl, hi, Bi, us, pre, gi, ci, hl, hb, hp, hpre⟩
    by_cases hlt : i < xs.length
    · refine .inr ⟨wk.go i _ Bi H' gi.ex ci hlt, fun H'' => i + 1 ≤ xs.length ∧ ∃ Bj zs pre, Gr w0.S B2 H2 Bj H'' ∧ Ctx w0 0 Bj H'' ∧ H'' D = some (.lst zs) ∧ Bj D = none ∧ PsAt zs pre Bj ∧ pre ++ ((xs.drop (i + 1)).flatMap fun x => (ys x).map (e x)) = tot, fun H'' h => ⟨xs.length - (i + 1), by omega, rfl, h⟩, fun v H3 hy => ?_⟩
      obtain ⟨x, B3, ex, g3, c3, py⟩ := wk.yld i _ Bi H' v H3 gi.ex ci hlt hy
      have hl3 : H3 D = some (.lst us) := g3.keep D _ hDS hl
      have hb3 : B3 D = none := g3.out hb (by rw [hl]; exact Option.some_ne_none _)
      have g23 := gi.trans g3
      obtain ⟨σ2, t1, t2, t3, t4⟩ := ht x v B3 (List.mem_of_getElem? ex) ((s1.trans g2.ex).trans g23.ex) py
      refine t1 H3 _ c3.sub ⟨t2, ?_⟩
      unfold tYes
      simp only [if_true]
      refine t3 B3 (Same.refl _) H3 c3 _ fun J1 B4 H4 g4 c4 wk1 => ?_
      have hl4 : H4 D = some (.lst us) := g4.keep D _ hDS hl3
      have hn4 : B4 D = none := g4.out hb3 (by rw [hl3]; exact Option.some_ne_none _)
      have ed : xs.drop i = x :: xs.drop (i + 1) := by
        obtain ⟨h1, h2⟩ := List.getElem?_eq_some_iff.mp ex
        rw [List.drop_eq_getElem_cons h1, h2]
      rw [ed, List.flatMap_cons] at hpre
      generalize hR : ((xs.drop (i + 1)).flatMap fun x => (ys x).map (e x)) = R at hpre ⊢
      refine ⟨fun j k H' => k = (ys x).length - j ∧ j ≤ (ys x).length ∧ ∃ Bj zs pr2, (Gr w0.S B2 H2 Bj H' ∧ Same B4 Bj) ∧ Ctx w0 0 Bj H' ∧ H' D = some (.lst zs) ∧ Bj D = none ∧ PsAt zs pr2 Bj ∧ pr2 ++ (((ys x).drop j).map (e x) ++ R) = tot, ⟨(ys x).length, by simp, Nat.zero_le _, B4, us, pre, ⟨g23.trans g4, Same.refl _⟩, c4, hl4, hn4, psAt_same (g3.ex.trans g4.ex) hp, hpre⟩, ?_⟩
      rintro j k2 H5 ⟨rfl, hj, Bj, zs, pr2, ⟨gj, sj⟩, cj, hlj, hbj, hpj, hprj⟩
      by_cases hjt : j < (ys x).length
      · refine .inr ⟨wk1.go j _ Bj H5 sj cj hjt, fun H'' => j + 1 ≤ (ys x).length ∧ ∃ Bj zs pr2, (Gr w0.S B2 H2 Bj H'' ∧ Same B4 Bj) ∧ Ctx w0 0 Bj H'' ∧ H'' D = some (.lst zs) ∧ Bj D = none ∧ PsAt zs pr2 Bj ∧ pr2 ++ (((ys x).drop (j + 1)).map (e x) ++ R) = tot, fun H'' h => ⟨(ys x).length - (j + 1), by omega, rfl, h⟩, fun u H6 hy2 => ?_⟩
        obtain ⟨y, B6, ey, g6, c6, pz⟩ := wk1.yld j _ Bj H5 u H6 sj cj hjt hy2
        have hl6 : H6 D = some (.lst zs) := g6.keep D _ hDS hlj
        have hb6 : B6 D = none := g6.out hbj (by rw [hlj]; exact Option.some_ne_none _)
        obtain ⟨σ3, r1, r2, r3⟩ := t4 y u B6 (List.mem_of_getElem? ey) (g4.ex.trans (sj.trans g6.ex)) pz
        refine r1 H6 _ c6.sub ⟨r2, ?_⟩
        refine r3 B6 (Same.refl _) H6 c6 _ fun z B7 H7 g7 c7 hz => ?_
        have ey2 : (ys x).drop j = y :: (ys x).drop (j + 1) := by
          obtain ⟨h1, h2⟩ := List.getElem?_eq_some_iff.mp ey
          rw [List.drop_eq_getElem_cons h1, h2]
        have hl7 : H7 D = some (.lst zs) := g7.keep D _ hDS hl6
        have hb7 : B7 D = none := g7.out hb6 (by rw [hl6]; exact Option.some_ne_none _)
        refine ⟨zs, hl7, ?_, by omega, B7, zs ++ [z], pr2 ++ [e x y], ⟨((gj.trans g6).trans g7).mut hD, (sj.trans g6.ex).trans g7.ex⟩, c7.mut hb7 hDS, upd_same, hb7, ps_snoc (psAt_same (g6.ex.trans g7.ex) hpj) hz, ?_⟩
        · have h1 := ps_len hpj
          have h2 := congrArg List.length hprj
          rw [List.length_append] at h2
          exact sz_lt (by omega)
        · rw [← hprj, ey2, List.map_cons]
          simp
      · have ej : j = (ys x).length := by omega
        subst ej
        rw [List.drop_length, List.map_nil, List.nil_append] at hprj
        exact .inl ⟨wk1.stop _ Bj H5 sj cj, by omega, Bj, zs, pr2, gj, cj, hlj, hbj, hpj, hprj⟩
    · have ei : i = xs.length := by omega
      subst ei
      rw [List.drop_length, List.flatMap_nil, List.append_nil] at hpre
      subst hpre
      exact .inl ⟨wk.stop _ Bi H' gi.ex ci, q _ (upd Bi D (.lst us)) H' (g2.trans (gi.put hb hD)) (ci.put hl hDS) ⟨D, us, rfl, upd_same, psAt_same (same_new hb) hp⟩⟩
end
end Pk


set_option Elab.async false
set_option linter.all false
set_option maxRecDepth 100000
set_option maxHeartbeats 4000000
/-! PkF5: plain_of; the law's lines, texts, orders, kinds, sets. -/
namespace Pk
open PySem PySem.Spec PyProof.Rows L2 PkH
theorem labs_blocks (line : List (Str × Str)) : labs (blocks line) ≤ line.length := by
  have z : ∀ f : List (Str × List Str), labs (f.map fun b => (b.1, setOf b.2)) ≤ labs f := by
    intro f
    induction f with
    | nil => exact Nat.le_refl _
    | cons b f ih =>
      unfold labs at ih ⊢
      rw [List.map_cons, List.map_cons, List.map_cons, List.sum_cons, List.sum_cons]
      have q := setOf_len b.2
      show (setOf b.2).length + _ ≤ _
      omega
  have q := stretch_labs line []
  have e : labs (stretch line) = labs [] + line.length := q
  have e0 : labs [] = 0 := rfl
  have r := z (stretch line)
  unfold blocks
  omega
theorem flat_len {α : Type} (e : Str → Str → α) : ∀ f : List (Str × List Str), (f.flatMap fun b => b.2.map (e b.1)).length = labs f
  | [] => rfl
  | b :: f => by
    rw [List.flatMap_cons, List.length_append, List.length_map, flat_len e f]
    unfold labs
    rw [List.map_cons, List.sum_cons]
theorem blocks_kind {line : List (Str × Str)} (h : ∀ p ∈ line, okKind p.1) : ∀ b ∈ blocks line, okKind b.1 := fun b hb => by
  obtain ⟨c, hc, rfl⟩ := List.mem_map.mp hb
  exact stretch_kind line [] (fun b hb => by cases hb) h c hc
section
variable {P : Program} {w : World} {K : PySem.W.Frag} {mg : Str → Option Value} {base : Heap} {B : Hp}
theorem two_blk {b : Str × List Str} {v : V} (h : (DD K (eBlk b)).p v B) : ∃ a v1 v2, v = .ref a ∧ SqT K B a [v1, v2] ∧ (dS K b.1).p v1 B ∧ (DD K (eTS b.2)).p v2 B := two_of (dd_tt h)
theorem scPlain : FnScope ["line", "label", "kind", "names"] ["line"] (defScope (top 39)) := ⟨rfl, rfl, rfl, by decide +kernel, rfl, by decide +kernel, by decide +kernel⟩
theorem calPlain (T : Txt K mg) : Cal P w K mg base 4 "plain_of" ["line"] (spF (GPlain K)) := by
  obtain ⟨fd, F⟩ := T.f_plain_of
  have C_blocks_of := calBlk (P := P) (w := w) (base := base) T
  refine cal_of (k := 3) F T.g_plain_of scPlain (fun Ps P ⟨_, e, _⟩ => by rw [e] <;> rfl) (fun _ _ _ _ _ _ us hl => match us, hl with | [_], _ => rfl) fun cdv A o s H E hr => ?_
  refine ⟨_, (pss_one (ps_ret (pe_callTy (kc_tup (K := K) rfl) (by rfl) T.m_tuple (by decide +kernel) (pa_cons (pe_lc2 (own := [("kind", 2), ("names", 3), ("label", 1)]) (vs1 := [1]) (by rfl) scPlain.nd (kp_tup (K := K) rfl (pe_cal C_blocks_of hr (pa_cons (pv 0) pa_nil))) (blkOk_by (by kernel_rfl)) (by decide) (fun _ _ _ _ _ => (kg_tup (K := K) (n := 2) rfl rfl (pgs_cons (pg_name (i := 2) scPlain.nd rfl (by first | exact Or.inl rfl | exact Or.inr rfl)) (pgs_cons (pg_name (i := 3) scPlain.nd rfl (by first | exact Or.inl rfl | exact Or.inr rfl)) pgs_nil)))) (fun _ _ _ _ _ => pts_nil) (fun _ _ _ _ _ => (kp_tup (K := K) rfl (pv 3))) (fun _ _ _ _ _ => (pg_name (i := 1) scPlain.nd rfl (by first | exact Or.inl rfl | exact Or.inr rfl))) (fun _ _ _ _ _ => pts_nil) (fun _ _ _ _ _ => (pe_tup (pa_cons (pv 2) (pa_cons (pv 1) pa_nil))))) pa_nil)))), ?_⟩
  intro H B vs Ps P0 hs hp ⟨line, hP, hl, hk, hP0⟩ D q
  subst hP hP0
  obtain ⟨lv, rfl, h0⟩ := one_of hp
  have e : eLine (plainP line) = .tuple (((blocks line).flatMap fun b => b.2.map fun l => (b.1, l)).map eSS) := rfl
  have e2 : ((blocks line).flatMap fun b => b.2.map fun l => DD K (eSS (b.1, l))) = ((blocks line).flatMap fun b => b.2.map fun l => (b.1, l)).map fun p => DD K (eSS p) := by
    rw [List.map_flatMap]
    congr 1
    funext b
    rw [List.map_map] <;> rfl
  refine s_ret (P := DD K (eLine (plainP line))) (at0 hs) ((ev_cb (ea_cons (ev_lo (ev_lc2 (K := K) (Z := fun _ => dS K) (xs := blocks line) (fun b => b.2) (fun b l => DD K (eSS (b.1, l))) (es_tup (Y := fun b => DD K (eBlk b)) ((ev_fn (ea_cons (ev_var rfl h0) ea_nil) ⟨line, rfl, hl, hk, rfl⟩).imp fun _ _ z => tt_map z)).s ?len ?turn)) ea_nil) rc_tupL).imp fun _ _ z => ?fin) fun v B' H' a s hv => q _ v B' H' a hv
  case len =>
    rw [flat_len (fun k l => DD K (eSS (k, l)))]
    have q := labs_blocks line
    omega
  case fin =>
    rw [e]
    rw [e2] at z
    exact map_tt z
  case turn =>
    intro b v B1 hb s1 hv
    obtain ⟨pa, v1, v2, rfl, hT, e1, e2⟩ := two_blk hv
    refine ⟨_, tg_two hT, rfl, (es_tup (Y := dS K) (ev_var rfl (tt_strs e2))).s, fun y u B2 hy s2 hu => ⟨_, tg_name, rfl, (ev_tup (K := K) (ea_cons (ev_var rfl (dd_up e1 s2)) (ea_cons (ev_var rfl hu) ea_nil))).imp fun _ _ z => tt_dd z⟩⟩
end
end Pk


set_option Elab.async false
set_option linter.all false
set_option maxRecDepth 100000
set_option maxHeartbeats 4000000
/-! PkF6: the law's texts, sets, kinds, orders. -/
namespace Pk
open PySem PySem.Spec PyProof.Rows L2 PkH
/-- every part of a row, each with one item more than the last -/
def subsF {α : Type} (xs : List α) : List (List α) := xs.foldl (fun f x => f ++ f.map fun y => y ++ [x]) [[]]
def subs {α : Type} (xs : List α) : List (List α) := (subsF xs).drop 1
def kindsF : Nat → List (List Str)
  | 0 => [[]]
  | n + 1 => (kindsF n).map (fun y => y ++ [("sum" : Str)]) ++ (kindsF n).map (fun y => y ++ [("max" : Str)])
def ordersN {α : Type} : Nat → List α → List (List α)
  | 0, _ => [[]]
  | n + 1, xs => ((List.range xs.length).zip xs).flatMap fun p => (ordersN n (xs.take p.1 ++ xs.drop (p.1 + 1))).map fun y => p.2 :: y
def spell (p : Str × Str) : Str := p.1 ++ (" " : Str) ++ p.2
def textOf (l : List (Str × Str)) : Str := Txt.join "; " (l.map spell)
def GText (K : PySem.W.Frag) : List Pr → Pr → Prop := fun Ps P => ∃ l : List (Str × Str), Ps = [DD K (eLine l)] ∧ l.length ≤ 64 ∧ (∀ p ∈ l, p.1.length ≤ 8 ∧ p.2.length ≤ 8) ∧ P = dS K (textOf l)
def GSets (K : PySem.W.Frag) : List Pr → Pr → Prop := fun Ps P => ∃ Qs : List Pr, Ps = [TuP K Qs] ∧ Qs.length ≤ 8 ∧ P = LoP K ((subs Qs).map (TuP K))
def GKindsL (K : PySem.W.Frag) : List Pr → Pr → Prop := fun Ps P => ∃ n : Nat, Ps = [dI K (n : Int)] ∧ n ≤ 8 ∧ P = LoP K ((kindsF n).map fun ks => TuP K (ks.map (dS K)))
def GOrders (K : PySem.W.Frag) (n : Nat) : List Pr → Pr → Prop := fun Ps P => ∃ Qs : List Pr, Ps = [TuP K Qs] ∧ Qs.length = n ∧ n ≤ 4 ∧ P = LoP K ((ordersN n Qs).map (TuP K))
theorem subsF_len {α : Type} : ∀ (xs : List α) (f : List (List α)), (xs.foldl (fun f x => f ++ f.map fun y => y ++ [x]) f).length = f.length * 2 ^ xs.length
  | [], f => by simp
  | x :: xs, f => by
    rw [List.foldl_cons, subsF_len xs, List.length_append, List.length_map, List.length_cons, Nat.pow_succ]
    have e : f.length + f.length = f.length * 2 := by omega
    rw [e, Nat.mul_assoc, Nat.mul_comm 2]
theorem subsF_in {α : Type} : ∀ (xs : List α) (f : List (List α)) (m : Nat), (∀ y ∈ f, y.length ≤ m) → ∀ y ∈ xs.foldl (fun f x => f ++ f.map fun y => y ++ [x]) f, y.length ≤ m + xs.length
  | [], f, m, h => fun y hy => Nat.le_trans (h y hy) (Nat.le_add_right _ _)
  | x :: xs, f, m, h => fun y hy => by
    rw [List.foldl_cons] at hy
    have q := subsF_in xs _ (m + 1) (fun z hz => by
      rcases List.mem_append.mp hz with hz | hz
      · exact Nat.le_succ_of_le (h z hz)
      · obtain ⟨u, hu, rfl⟩ := List.mem_map.mp hz
        rw [List.length_append]
        have a := h u hu
        simp
        omega) y hy
    rw [List.length_cons]
    omega
theorem pow_le {i : Nat} (h : i ≤ 8) : 2 ^ i ≤ 256 := Nat.le_trans (Nat.pow_le_pow_right (by decide) h) (by decide)
theorem kindsF_len : ∀ n, (kindsF n).length = 2 ^ n
  | 0 => rfl
  | n + 1 => by
    rw [kindsF, List.length_append, List.length_map, List.length_map, kindsF_len n, Nat.pow_succ]
    omega
theorem kindsF_in : ∀ n, ∀ y ∈ kindsF n, y.length = n
  | 0, y, h => by
    rw [List.mem_singleton.mp h] <;> rfl
  | n + 1, y, h => by
    rcases List.mem_append.mp h with h | h
    · obtain ⟨u, hu, rfl⟩ := List.mem_map.mp h
      simp [kindsF_in n u hu]
    · obtain ⟨u, hu, rfl⟩ := List.mem_map.mp h
      simp [kindsF_in n u hu]
section
variable {P : Program} {w : World} {K : PySem.W.Frag} {mg : Str → Option Value} {base : Heap} {B : Hp}
/-- sep.join(xs) -/
theorem ev_join {w : Wd} {n m l : Nat} {to te : TE} {σ : L2.St} {a : Str} {ys : List Str} (ho : Ev w n m to σ B (dS K a)) (he : Ev w m l te σ B (LiP K (ys.map (dS K)))) (hb : (ys.map (·.length)).sum + ys.length * a.length ≤ 16777216) : Ev w n l (tM1 (rJoin K) to te) σ B (dS K (Txt.join a ys)) := fun B1 s1 =>
  Go.bind (f := fun x H1 Q => (∃ a, x = .str a) ∧ te σ H1 fun y H2 => rJoin K x [y] H2 Q) (ho B1 s1) fun x B2 s2 hx => Go.and ⟨a, dd_str hx⟩ (Go.bind (f := fun y H2 Q => rJoin K x [y] H2 Q) (he B2 (s1.trans s2)) fun y B3 s3 hy H c Q q => by
    obtain ⟨p, vs, rfl, h1, h2⟩ := hy
    obtain rfl := strs_of h2
    exact ⟨a, p, ys, dd_str hx, rfl, .inl (sqL_same c.sub h1), hb, q _ B3 H Gr.refl c (.str _)⟩)
theorem scText : FnScope ["_law_line_so", "_law_kind_so", "_law_own"] ["_law_line_so"] (defScope (top 64)) := ⟨rfl, rfl, rfl, by decide +kernel, rfl, by decide +kernel, by decide +kernel⟩
theorem sum_le_mul : ∀ (xs : List Nat) (b : Nat), (∀ x ∈ xs, x ≤ b) → xs.sum ≤ xs.length * b
  | [], b, _ => by simp
  | x :: xs, b, h => by
    rw [List.sum_cons, List.length_cons, Nat.succ_mul]
    have a := h x List.mem_cons_self
    have q := sum_le_mul xs b fun y hy => h y (List.mem_cons_of_mem _ hy)
    omega
theorem str_app_len (a b : Str) : (a ++ b).length = a.length + b.length := Array.size_append
theorem calText (T : Txt K mg) : Cal P w K mg base 1 "_law_text" ["_law_line_so"] (spF (GText K)) := by
  obtain ⟨fd, F⟩ := T.f_law_text
  refine cal_of (k := 0) F T.g_law_text scText (fun Ps P ⟨_, e, _⟩ => by rw [e] <;> rfl) (fun _ _ _ _ _ _ us hl => match us, hl with | [_], _ => rfl) fun cdv A o s H E hr => ?_
  refine ⟨_, (pss_one (ps_ret (ke_join (K := K) rfl (pe_join pe_str (pe_lc (own := [("_law_kind_so", 1), ("_law_own", 2)]) (by rfl) scText.nd (kp_tup (K := K) rfl (pv 0)) (blkOk_by (by kernel_rfl)) (fun _ _ _ _ _ => (kg_tup (K := K) (n := 2) rfl rfl (pgs_cons (pg_name (i := 1) scText.nd rfl (by first | exact Or.inl rfl | exact Or.inr rfl)) (pgs_cons (pg_name (i := 2) scText.nd rfl (by first | exact Or.inl rfl | exact Or.inr rfl)) pgs_nil)))) (fun _ _ _ _ _ => pts_nil) (fun _ _ _ _ _ => (pe_op op_add_str (pe_op op_add_str (pv 1) pe_str) (pv 2)))))))), ?_⟩
  intro H B vs Ps P0 hs hp ⟨l, hP, hl, hk, hP0⟩ D q
  subst hP hP0
  obtain ⟨lv, rfl, h0⟩ := one_of hp
  refine s_ret (P := dS K (textOf l)) (at0 hs) (ev_join (ys := l.map spell) (ev_str (K := K)) ((ev_lo (ev_lc1 (K := K) (c := 0) (fun p => dS K (spell p)) (es_tup (ev_var rfl (tt_line h0))).s (by omega) ?turn)).to (by rw [List.map_map] <;> rfl)) ?len) fun v B' H' a s hv => q _ v B' H' a hv
  case len =>
    have q := sum_le_mul ((l.map spell).map (·.length)) 17 fun x hx => by
      obtain ⟨y, hy, rfl⟩ := List.mem_map.mp hx
      obtain ⟨p, hp, rfl⟩ := List.mem_map.mp hy
      have z := hk p hp
      unfold spell
      rw [str_app_len, str_app_len]
      have e1 : Str.length (" " : Str) = 1 := by decide +kernel
      omega
    rw [List.length_map, List.length_map] at q
    rw [List.length_map]
    have e2 : Str.length ("; " : Str) = 2 := by decide +kernel
    rw [e2]
    omega
  case turn =>
    intro p v B1 k hx s1 hv
    obtain ⟨a, v1, v2, rfl, hT, e1, e2⟩ := two_ss hv
    have z := hk p hx
    have e3 : Str.length (" " : Str) = 1 := by decide +kernel
    exact ⟨_, tg_two hT, rfl, ev_op (ev_op (ev_var rfl e1) (ev_str (K := K)) (rv_addS (by omega))) (ev_var rfl e2) (rv_addS (by rw [str_app_len]; omega))⟩
theorem scSets : FnScope ["_law_tags_here", "_law_found", "_law_own", "_law_far"] ["_law_tags_here"] (defScope (top 61)) := ⟨rfl, rfl, rfl, by decide +kernel, rfl, by decide +kernel, by decide +kernel⟩
theorem calSets (T : Txt K mg) : Cal P w K mg base 1 "_law_sets" ["_law_tags_here"] (spF (GSets K)) := by
  obtain ⟨fd, F⟩ := T.f_law_sets
  refine cal_of (k := 0) F T.g_law_sets scSets (fun Ps P ⟨_, e, _⟩ => by rw [e] <;> rfl) (fun _ _ _ _ _ _ us hl => match us, hl with | [_], _ => rfl) fun cdv A o s H E hr => ?_
  refine ⟨_, (pss_cons (ps_set (i := 1) scSets.nd rfl (by first | exact Or.inl rfl | exact Or.inr rfl) (pe_lst (pa_cons (pe_tup pa_nil) pa_nil)))
    (pss_cons (ps_for (passes_of rfl) rfl (kp_tup (K := K) rfl (pv 0)) (pg_name (i := 2) scSets.nd rfl (by first | exact Or.inl rfl | exact Or.inr rfl)) (pss_one (ps_set (i := 1) scSets.nd rfl (by first | exact Or.inl rfl | exact Or.inr rfl) (pe_op op_cat (pv 1) (pe_lc (own := [("_law_far", 3)]) (by rfl) scSets.nd (kp_list (K := K) rfl (pv 1)) (blkOk_by (by kernel_rfl)) (fun _ _ _ _ _ => (pg_name (i := 3) scSets.nd rfl (by first | exact Or.inl rfl | exact Or.inr rfl))) (fun _ _ _ _ _ => pts_nil) (fun _ _ _ _ _ => (pe_op (ko_catT (K := K) rfl) (pv 3) (pe_tup (pa_cons (pv 2) pa_nil)))))))))
    (pss_one (ps_ret (pe_slice (ks_list (K := K) rfl) (pv 1) (po_some pe_int) po_none))))), ?_⟩
  intro H B vs Ps P0 hs hp ⟨Qs, hP, hl, hP0⟩ D q
  subst hP hP0
  obtain ⟨lv, rfl, h0⟩ := one_of hp
  refine q_asg (P := LoP K [TuP K []]) (at0 hs) (ev_lst' (ea_cons (ev_tup (K := K) (m := 0) ea_nil) ea_nil)) fun f0 B1 H1 t1 s1 hf0 => ?_
  refine q_for (m := 0) (xs := Qs) (Y := fun Q => Q) (fun i Bs u k σ B1 => u = w0 ∧ ∃ f x2, σ = [some lv, some f, x2, none] ∧ (LoP K (((Qs.take i).foldl (fun f x => f ++ f.map fun y => y ++ [x]) [[]]).map (TuP K))).p f B1) t1 (es_tup (K := K) (ev_var (i := 0) rfl (by rw [List.map_id']; exact Pr.up h0 s1))) (fun B2 s2 => ⟨rfl, f0, none, rfl, Pr.up hf0 s2⟩) ?turn ?done
  case turn =>
    intro i Q v Bs u k σ' B1 B2 H2 ex s2 s3 ⟨hu, f, x2, hσ, hf⟩ t s4 hv
    subst hu hσ
    have hnext := foldl_take (fun (f : List (List Pr)) x => f ++ f.map fun y => y ++ [x]) Qs [[]] ex
    have hlen := subsF_len (Qs.take i) [[]]
    have hin := subsF_in (Qs.take i) [[]] 0 (fun y hy => by rw [List.mem_singleton.mp hy] <;> exact Nat.le_refl _)
    have htk : (Qs.take i).length ≤ 8 := by rw [List.length_take]; omega
    have hpw := pow_le htk
    rw [List.length_singleton, Nat.one_mul] at hlen
    rw [← hlen] at hpw
    generalize (Qs.take i).foldl (fun f x => f ++ f.map fun y => y ++ [x]) [[]] = f0 at hf hnext hlen hin hpw
    have hf2 := Pr.up hf s4
    show tAsg _ _ _ _ H2
    refine s_asg (m := k) t (P := LoP K ((f0 ++ f0.map fun y => y ++ [Q]).map (TuP K))) ?_ fun g B3 H3 t3 s5 hg => ⟨_, _, B3, t3, (s3.trans s4).trans s5, rfl, g, some v, rfl, by rw [hnext]; exact hg⟩
    rw [List.map_append]
    refine Ev.z (n := 0) (ev_op (ev_var rfl hf2) ((ev_lc1 (K := K) (c := 0) (xs := f0) (fun y => TuP K (y ++ [Q])) (es_list (Y := TuP K) (ev_var rfl (lo_li hf2))).s ?_ fun y u B4 l hy s6 hu => ⟨_, tg_name, rfl, ev_op (ev_var rfl hu) (ev_tup (ea_cons (ev_var rfl (Pr.up hv s6)) ea_nil)) (rv_catT ?_)⟩).to (by rw [List.map_map] <;> rfl)) (rv_cat ?_))
    · omega
    · have z := hin y hy
      simp
      omega
    · simp
      omega
  case done =>
    intro Bs u k σ' B1 H1 s2 s3 t ⟨hu, f, x2, hσ, hf⟩
    subst hu hσ
    rw [List.take_length] at hf
    refine s_ret (P := LoP K ((subs Qs).map (TuP K))) t ((ev_sl (ev_var rfl (lo_li hf)) (eo_some (i := 1) (ev_int (K := K))) eo_none rs_list).to ?_) fun v B' H' a s hv => q _ v B' H' a hv
    rw [cutP_map]
    exact congrArg (fun z => LoP K (List.map (TuP K) z)) (cut_from _ 1)
end
end Pk


set_option Elab.async false
set_option linter.all false
set_option maxRecDepth 100000
set_option maxHeartbeats 4000000
/-! PkF7: the law's kinds, orders, lists. -/
namespace Pk
open PySem PySem.Spec PyProof.Rows L2 PkH
section
variable {P : Program} {w : World} {K : PySem.W.Frag} {mg : Str → Option Value} {base : Heap} {B : Hp}
theorem scKindsL : FnScope ["_law_many_so", "_law_found", "_law_turn", "_law_own"] ["_law_many_so"] (defScope (top 60)) := ⟨rfl, rfl, rfl, by decide +kernel, rfl, by decide +kernel, by decide +kernel⟩
abbrev ksP (K : PySem.W.Frag) (ks : List Str) : Pr := TuP K (ks.map (dS K))
theorem calKindsL (T : Txt K mg) : Cal P w K mg base 1 "_law_kinds" ["_law_many_so"] (spF (GKindsL K)) := by
  obtain ⟨fd, F⟩ := T.f_law_kinds
  refine cal_of (k := 0) F T.g_law_kinds scKindsL (fun Ps P ⟨_, e, _⟩ => by rw [e] <;> rfl) (fun _ _ _ _ _ _ us hl => match us, hl with | [_], _ => rfl) fun cdv A o s H E hr => ?_
  refine ⟨_, (pss_cons (ps_set (i := 1) scKindsL.nd rfl (by first | exact Or.inl rfl | exact Or.inr rfl) (pe_lst (pa_cons (pe_tup pa_nil) pa_nil)))
    (pss_cons (ps_for (passes_of rfl) rfl (pi_range1 (by rfl) T.m_range (pa_cons (pv 0) pa_nil)) (pg_name (i := 2) scKindsL.nd rfl (by first | exact Or.inl rfl | exact Or.inr rfl)) (pss_one (ps_set (i := 1) scKindsL.nd rfl (by first | exact Or.inl rfl | exact Or.inr rfl) (pe_op op_cat (pe_lc (own := [("_law_own", 3)]) (by rfl) scKindsL.nd (kp_list (K := K) rfl (pv 1)) (blkOk_by (by kernel_rfl)) (fun _ _ _ _ _ => (pg_name (i := 3) scKindsL.nd rfl (by first | exact Or.inl rfl | exact Or.inr rfl))) (fun _ _ _ _ _ => pts_nil) (fun _ _ _ _ _ => (pe_op (ko_catT (K := K) rfl) (pv 3) (pe_tup (pa_cons pe_str pa_nil))))) (pe_lc (own := [("_law_own", 3)]) (by rfl) scKindsL.nd (kp_list (K := K) rfl (pv 1)) (blkOk_by (by kernel_rfl)) (fun _ _ _ _ _ => (pg_name (i := 3) scKindsL.nd rfl (by first | exact Or.inl rfl | exact Or.inr rfl))) (fun _ _ _ _ _ => pts_nil) (fun _ _ _ _ _ => (pe_op (ko_catT (K := K) rfl) (pv 3) (pe_tup (pa_cons pe_str pa_nil)))))))))
    (pss_one (ps_ret (pv 1))))), ?_⟩
  intro H B vs Ps P0 hs hp ⟨n, hP, hl, hP0⟩ D q
  subst hP hP0
  obtain ⟨lv, rfl, h0⟩ := one_of hp
  refine q_asg (P := LoP K [ksP K []]) (at0 hs) (ev_lst' (ea_cons (ev_tup (K := K) (m := 0) ea_nil) ea_nil)) fun f0 B1 H1 t1 s1 hf0 => ?_
  refine q_for (m := 0) (xs := List.range n) (Y := fun i => dI K (i : Int)) (fun i Bs u k σ B1 => u = w0 ∧ ∃ f x2, σ = [some lv, some f, x2, none] ∧ (LoP K ((kindsF i).map (ksP K))).p f B1) t1 (es_rng (K := K) (ea_cons (ev_var (i := 0) rfl (Pr.up h0 s1)) ea_nil) (by omega)) (fun B2 s2 => ⟨rfl, f0, none, rfl, Pr.up hf0 s2⟩) ?turn ?done
  case turn =>
    intro i j v Bs u k σ' B1 B2 H2 ex s2 s3 ⟨hu, f, x2, hσ, hf⟩ t s4 hv
    subst hu hσ
    have hf2 := Pr.up hf s4
    have hi : i < n := by
      have q := (List.getElem?_eq_some_iff.mp ex).1
      rw [List.length_range] at q
      exact q
    have hlen := kindsF_len i
    have hpw := pow_le (i := i) (by omega)
    show tAsg _ _ _ _ H2
    refine s_asg (m := k) t (P := LoP K ((kindsF (i + 1)).map (ksP K))) ?_ fun g B3 H3 t3 s5 hg => ⟨_, _, B3, t3, (s3.trans s4).trans s5, rfl, g, some v, rfl, hg⟩
    have one : ∀ (z : Str) (B4 : Hp), Same B2 B4 → Ev w0 0 (0 + (kindsF i).length * 0) (tLc (iList K (tVar 1)) (gName 3) tYes (tOp (rCatA K) (tVar 3) (tTup (tCons (tC (.str z)) tNil))) [3]) [some lv, some f, some v, none] B4 (LoP K (((kindsF i).map fun y => y ++ [z]).map (ksP K))) := fun z B4 s5 =>
      (ev_lc1 (K := K) (c := 0) (xs := kindsF i) (fun y => ksP K (y ++ [z])) (es_list (Y := ksP K) (ev_var rfl (lo_li (Pr.up hf2 s5)))).s (by omega) fun y u B4 l hy s6 hu => ⟨_, tg_name, rfl, by
        refine (ev_op (ev_var rfl hu) (ev_tup (ea_cons (ev_str (K := K)) ea_nil)) (rv_catT ?_)).to ?_
        · rw [List.length_map, kindsF_in i y hy]
          show i + 1 ≤ 100000
          omega
        · show TuP K _ = TuP K _
          rw [List.map_append] <;> rfl⟩).to (by rw [List.map_map] <;> rfl)
    have e : (kindsF (i + 1)).map (ksP K) = ((kindsF i).map fun y => y ++ [("sum" : Str)]).map (ksP K) ++ ((kindsF i).map fun y => y ++ [("max" : Str)]).map (ksP K) := by
      rw [kindsF, List.map_append]
    rw [e]
    refine Ev.z (n := 0) (m := 0) (ev_op (Ev.z (l := 0) (k := 0) (one _ B2 (Same.refl _))) (Ev.z (l := 0) (k := 0) (one _ B2 (Same.refl _))) (rv_cat ?_))
    rw [List.length_map, List.length_map, List.length_map, List.length_map]
    omega
  case done =>
    intro Bs u k σ' B1 H1 s2 s3 t ⟨hu, f, x2, hσ, hf⟩
    subst hu hσ
    rw [List.length_range] at hf
    exact s_ret (P := LoP K ((kindsF n).map (ksP K))) t (ev_var rfl hf) fun v B' H' a s hv => q _ v B' H' a hv
theorem scOrders : FnScope ["_law_some", "_law_found", "_law_k", "_law_own", "_law_far"] ["_law_some"] (defScope (top 59)) := ⟨rfl, rfl, rfl, by decide +kernel, rfl, by decide +kernel, by decide +kernel⟩
def fct : Nat → Nat
  | 0 => 1
  | n + 1 => (n + 1) * fct n
theorem flatMap_le {α β : Type} (f : α → List β) (b : Nat) : ∀ xs : List α, (∀ x ∈ xs, (f x).length ≤ b) → (xs.flatMap f).length ≤ xs.length * b
  | [], _ => Nat.zero_le _
  | x :: xs, h => by
    rw [List.flatMap_cons, List.length_append, List.length_cons, Nat.succ_mul]
    have a := h x List.mem_cons_self
    have q := flatMap_le f b xs fun y hy => h y (List.mem_cons_of_mem _ hy)
    omega
theorem less_len {α : Type} {xs : List α} {i n : Nat} (h : xs.length = n + 1) (hi : i < n + 1) : (xs.take i ++ xs.drop (i + 1)).length = n := by
  rw [List.length_append, List.length_take, List.length_drop]
  omega
theorem zip_mem {α : Type} {xs : List α} {p : Nat × α} (h : p ∈ (List.range xs.length).zip xs) : p.1 < xs.length ∧ xs[p.1]? = some p.2 := by
  obtain ⟨i, hi, e⟩ := List.mem_iff_getElem.mp h
  rw [List.length_zip, List.length_range, Nat.min_self] at hi
  rw [List.getElem_zip, List.getElem_range] at e
  rw [← e]
  exact ⟨hi, List.getElem?_eq_getElem hi⟩
theorem ordersN_len {α : Type} : ∀ (n : Nat) (xs : List α), xs.length = n → (ordersN n xs).length ≤ fct n
  | 0, xs, _ => Nat.le_refl _
  | n + 1, xs, h => by
    rw [ordersN]
    have q := flatMap_le (fun p : Nat × α => (ordersN n (xs.take p.1 ++ xs.drop (p.1 + 1))).map fun y => p.2 :: y) (fct n) ((List.range xs.length).zip xs) fun p hp => by
      rw [List.length_map]
      exact ordersN_len n _ (less_len h (by have z := (zip_mem hp).1; omega))
    rw [List.length_zip, List.length_range, Nat.min_self] at q
    rw [fct, ← h]
    exact q
theorem ordersN_in {α : Type} : ∀ (n : Nat) (xs : List α), xs.length = n → ∀ y ∈ ordersN n xs, y.length = n
  | 0, xs, _ => fun y hy => by
    rw [ordersN, List.mem_singleton] at hy
    rw [hy] <;> rfl
  | n + 1, xs, h => fun y hy => by
    rw [ordersN, List.mem_flatMap] at hy
    obtain ⟨p, hp, hy⟩ := hy
    obtain ⟨z, hz, rfl⟩ := List.mem_map.mp hy
    rw [List.length_cons, ordersN_in n _ (less_len h (by have z := (zip_mem hp).1; omega)) z hz]
theorem fct4 {n : Nat} (h : n ≤ 4) : fct n ≤ 24 := by
  have e : n = 0 ∨ n = 1 ∨ n = 2 ∨ n = 3 ∨ n = 4 := by omega
  rcases e with rfl | rfl | rfl | rfl | rfl <;> decide
theorem ord_body {H B : Hp} (hs : Same B H) {lv : V} {Qs : List Pr} {n : Nat} (h0 : (TuP K Qs).p lv B) (hl : Qs.length = n) (h4 : n ≤ 4) {sp : Sp}
    (hC : ∀ (B1 : Hp) (te : TE) (σ : L2.St) (Rs : List Pr) (k : Nat), Rs.length + 1 = n → Ev w0 k k te σ B1 (TuP K Rs) → Ev w0 k k (tCall sp [] E0 (tCons te tNil)) σ B1 (LoP K ((ordersN Rs.length Rs).map (TuP K))))
    {D : Ends} (q : ∀ n1 v B' H', At (fun _ => False) w0 n1 B H B' H' → (LoP K ((ordersN n Qs).map (TuP K))).p v B' → D.rt v H') :
    tSeq (tIfS (tTest (tOp rEq (tCB (fun xs H Q => ∃ p ys, xs = [V.ref p] ∧ (SqL K H p ys ∨ SqT K H p ys) ∧ Q (.int ys.length) H) (tCons (tVar 0) tNil)) (tC (.int 0)))) (tRet (tLst (tCons (tTup tNil) tNil))) tNext) (tSeq (tAsg (tLst tNil) (gName 1))
      (tSeq (tFor (iEnumT K (tCons (tVar 0) tNil)) (gTup K 2 (gCons (gName 2) (gCons (gName 3) gNil)))
        (tAsg (tOp rCat (tVar 1) (tLc (iList K (tCall sp [] E0 (tCons (tOp (rCatA K) (tSl (rSlA K) (tVar 0) tNoPart (tPart (tVar 2))) (tSl (rSlA K) (tVar 0) (tPart (tOp (rI0 fun i j => V.int (i + j)) (tVar 2) (tC (.int 1)))) tNoPart)) tNil))) (gName 4) tYes (tOp (rCatA K) (tTup (tCons (tVar 3) tNil)) (tVar 4)) [4])) (gName 1))) (tRet (tVar 1)))) D [some lv, none, none, none, none] H := by
  refine q_when (m := 0) (b := decide (n = 0)) (at0 hs) (et_test ((ev_op (ev_cb (ea_cons (ev_var rfl h0) ea_nil) rc_lenT) (ev_int (K := K)) (rv_eqI (b := 0))).to (by rw [hl]; congr 2; simp))) (fun hb B1 H1 t1 s1 => ?_) fun hb B1 H1 t1 s1 => ?_
  · have e : n = 0 := by simpa using hb
    subst e
    exact s_ret (m := 0) t1 (ev_lst' (ea_cons (ev_tup (K := K) (m := 0) ea_nil) ea_nil)) fun v B' H' a s hv => q _ v B' H' a hv
  · obtain ⟨n, rfl⟩ : ∃ m, n = m + 1 := by
      have e : ¬ n = 0 := by simpa using hb
      exact ⟨n - 1, by omega⟩
    refine q_asg (m := 0) (P := LoP K []) t1 (ev_lst' ea_nil) fun f0 B2 H2 t2 s2 hf0 => ?_
    refine q_for (m := 0) (xs := (List.range Qs.length).zip Qs) (Y := fun p => TuP K [dI K (p.1 : Int), p.2]) (fun i Bs u k σ B1 => u = w0 ∧ ∃ f x2 x3, σ = [some lv, some f, x2, x3, none] ∧ (LoP K ((((List.range Qs.length).zip Qs).take i).flatMap fun p => ((ordersN n (Qs.take p.1 ++ Qs.drop (p.1 + 1))).map fun y => TuP K (p.2 :: y)))).p f B1) t2
      (es_enumT (K := K) (ea_cons (ev_var (i := 0) rfl (by rw [List.map_id']; exact Pr.up h0 (s1.trans s2))) ea_nil)) (fun B3 s3 => ⟨rfl, f0, none, none, rfl, Pr.up hf0 s3⟩) ?turn ?done
    case turn =>
      intro i p v Bs u k σ' B3 B4 H4 ex s3 s4 ⟨hu, f, x2, x3, hσ, hf⟩ t s5 hv
      subst hu hσ
      obtain ⟨pa, v1, v2, rfl, hT, e1, e2⟩ := two_of hv
      refine tg_two hT H4 _ t.c.sub ?_
      have hf2 := Pr.up hf s5
      have hp := zip_mem (List.mem_of_getElem? ex)
      have hll := less_len (xs := Qs) (i := p.1) (n := n) hl (by omega)
      have h00 : Same B B4 := ((((s1.trans s2).trans s3).trans s4).trans s5)
      generalize hF : (fun p : Nat × Pr => ((ordersN n (Qs.take p.1 ++ Qs.drop (p.1 + 1))).map fun y => TuP K (p.2 :: y))) = F at hf2 ⊢
      have hFp : F p = (ordersN n (Qs.take p.1 ++ Qs.drop (p.1 + 1))).map fun y => TuP K (p.2 :: y) := by rw [← hF]
      have hnow : ((((List.range Qs.length).zip Qs).take i).flatMap F).length ≤ 4 * 24 := by
        refine Nat.le_trans (flatMap_le _ 24 _ fun r hr => ?_) (Nat.mul_le_mul_right _ ?_)
        · rw [← hF, List.length_map]
          have hr2 := zip_mem (List.mem_of_mem_take hr)
          exact Nat.le_trans (ordersN_len n _ (less_len hl (by omega))) (fct4 (by omega))
        · rw [List.length_take, List.length_zip, List.length_range, Nat.min_self]
          omega
      have hone : (F p).length ≤ 24 := by
        rw [hFp, List.length_map]
        exact Nat.le_trans (ordersN_len n _ hll) (fct4 (by omega))
      have hnext : (((List.range Qs.length).zip Qs).take (i + 1)).flatMap F = (((List.range Qs.length).zip Qs).take i).flatMap F ++ F p := by
        rw [take_next ex, List.flatMap_append, List.flatMap_singleton]
      refine s_asg (m := k) t (P := LoP K ((((List.range Qs.length).zip Qs).take (i + 1)).flatMap F)) ?_ fun g B5 H5 t5 s6 hg => ⟨_, _, B5, t5, ((s4.trans s5).trans s6), rfl, g, some v1, some v2, rfl, hg⟩
      rw [hnext]
      have hix : ((p.1 : Nat) : Int) + 1 = ((p.1 + 1 : Nat) : Int) := by omega
      have ev1 : Ev w0 0 0 (tOp (rCatA K) (tSl (rSlA K) (tVar 0) tNoPart (tPart (tVar 2))) (tSl (rSlA K) (tVar 0) (tPart (tOp (rI0 fun i j => V.int (i + j)) (tVar 2) (tC (.int 1)))) tNoPart)) [some lv, some f, some v1, some v2, none] B4 (TuP K (Qs.take p.1 ++ Qs.drop (p.1 + 1))) := by
        refine (ev_op (ev_sl (ev_var rfl (Pr.up h0 h00)) eo_none (eo_some (i := (p.1 : Int)) (ev_var rfl e1)) rs_tup) (ev_sl (ev_var rfl (Pr.up h0 h00)) (eo_some (i := ((p.1 + 1 : Nat) : Int)) ((ev_op (ev_var rfl e1) (ev_int (K := K)) rv_I0i).to (by rw [hix]))) eo_none rs_tup) (rv_catT ?_)).to (by rw [cut_to, cut_from])
        rw [cut_to, cut_from, ← List.length_append, hll]
        omega
      have ev2 := hC B4 _ [some lv, some f, some v1, some v2, none] _ 0 (by rw [hll]) ev1
      rw [hll] at ev2
      refine Ev.z (n := 0) (ev_op (ev_var rfl hf2) ((ev_lc1 (K := K) (c := 0) (xs := ordersN n (Qs.take p.1 ++ Qs.drop (p.1 + 1))) (fun y => TuP K (p.2 :: y)) (es_list (Y := TuP K) (ev_lo ev2)).s ?_ fun y u B5 l hy s6 hu => ⟨_, tg_name, rfl, ev_op (ev_tup (K := K) (ea_cons (ev_var rfl (Pr.up e2 s6)) ea_nil)) (ev_var rfl hu) (rv_catT ?_)⟩).to (by rw [hFp])) (rv_cat ?_))
      · rw [hFp, List.length_map] at hone
        omega
      · rw [ordersN_in n _ hll y hy]
        show 1 + n ≤ 100000
        omega
      · omega
    case done =>
      intro Bs u k σ' B3 H3 s3 s4 t ⟨hu, f, x2, x3, hσ, hf⟩
      subst hu hσ
      rw [List.take_length] at hf
      refine s_ret (P := LoP K ((ordersN (n + 1) Qs).map (TuP K))) t (ev_var rfl ?_) fun v B' H' a s hv => q _ v B' H' a hv
      rw [ordersN, List.map_flatMap]
      simp only [List.map_map]
      exact hf
end
end Pk


set_option Elab.async false
set_option linter.all false
set_option maxRecDepth 100000
set_option maxHeartbeats 4000000
/-! PkF8: _law_orders, _law_lists, _law_plain. -/
namespace Pk
open PySem PySem.Spec PyProof.Rows L2 PkH
mutual
def listD : PyData → PyData
  | .list xs => .list (listAll xs)
  | .tuple xs => .list (listAll xs)
  | d => d
def listAll : List PyData → List PyData
  | [] => []
  | x :: xs => listD x :: listAll xs
end
theorem listAll_map : ∀ xs, listAll xs = xs.map listD
  | [] => rfl
  | x :: xs => by rw [listAll, listAll_map xs] <;> rfl
def GLists (K : PySem.W.Frag) (n : Nat) : List Pr → Pr → Prop := fun Ps P => ∃ d, Ps = [DD K d] ∧ noDict d = true ∧ wide d ∧ lev d ≤ n ∧ P = DD K (listD d)
section
variable {P : Program} {w : World} {K : PySem.W.Frag} {mg : Str → Option Value} {base : Heap} {B : Hp}
theorem calOrders (T : Txt K mg) : ∀ n, Cal P w K mg base (n + 1) "_law_orders" ["_law_some"] (spF (GOrders K n)) := by
  intro n
  induction n with
  | zero =>
    obtain ⟨fd, F⟩ := T.f_law_orders
    have C_law_orders : Cal P w K mg base 0 "_law_orders" ["_law_some"] (fun _ _ _ _ => False) := ⟨_, fd, ⟨fun _ _ _ _ h => h.elim, fun _ _ _ _ _ _ _ _ _ _ _ _ _ h => h.elim⟩, T.g_law_orders, F.kp, F.bindsN fun _ _ _ _ _ _ us hl => match us, hl with | [_], _ => rfl⟩
    refine cal_of (k := 0) F T.g_law_orders scOrders (fun Ps P ⟨_, e, _⟩ => by rw [e] <;> rfl) (fun _ _ _ _ _ _ us hl => match us, hl with | [_], _ => rfl) fun cdv A o s H E hr => ?_
    refine ⟨_, (pss_cons (ps_if (pt_cmpR op_eq (pe_callB (kc_len (K := K) rfl) (by rfl) T.m_len PySem.boot_len (pa_cons (pv 0) pa_nil)) pe_int (nomark _)) (pss_one (ps_ret (pe_lst (pa_cons (pe_tup pa_nil) pa_nil)))) pss_nil)
    (pss_cons (ps_set (i := 1) scOrders.nd rfl (by first | exact Or.inl rfl | exact Or.inr rfl) (pe_lst pa_nil))
    (pss_cons (ps_for (passes_of rfl) rfl (kp_enumT (K := K) rfl (pi_enumT (by rfl) T.m_enumerate (pa_cons (pv 0) pa_nil))) (kg_tup (K := K) (n := 2) rfl rfl (pgs_cons (pg_name (i := 2) scOrders.nd rfl (by first | exact Or.inl rfl | exact Or.inr rfl)) (pgs_cons (pg_name (i := 3) scOrders.nd rfl (by first | exact Or.inl rfl | exact Or.inr rfl)) pgs_nil))) (pss_one (ps_set (i := 1) scOrders.nd rfl (by first | exact Or.inl rfl | exact Or.inr rfl) (pe_op op_cat (pv 1) (pe_lc (own := [("_law_far", 4)]) (by rfl) scOrders.nd (kp_list (K := K) rfl (pe_cal C_law_orders hr (pa_cons (pe_op (ko_catT (K := K) rfl) (pe_slice (ks_tup (K := K) rfl) (pv 0) po_none (po_some (pv 2))) (pe_slice (ks_tup (K := K) rfl) (pv 0) (po_some (pe_op op_add (pv 2) pe_int)) po_none)) pa_nil))) (blkOk_by (by kernel_rfl)) (fun _ _ _ _ _ => (pg_name (i := 4) scOrders.nd rfl (by first | exact Or.inl rfl | exact Or.inr rfl))) (fun _ _ _ _ _ => pts_nil) (fun _ _ _ _ _ => (pe_op (ko_catT (K := K) rfl) (pe_tup (pa_cons (pv 3) pa_nil)) (pv 4))))))))
    (pss_one (ps_ret (pv 1)))))), ?_⟩
    intro H B vs Ps P0 hs hp ⟨Qs, hP, hl, h4, hP0⟩ D q
    subst hP hP0
    obtain ⟨v, rfl, h0⟩ := one_of hp
    exact ord_body hs h0 hl h4 (fun B1 te σ Rs k h _ => absurd h (by omega)) q
  | succ n ih =>
    obtain ⟨fd, F⟩ := T.f_law_orders
    have C_law_orders := ih
    refine cal_of (k := n + 1) F T.g_law_orders scOrders (fun Ps P ⟨_, e, _⟩ => by rw [e] <;> rfl) (fun _ _ _ _ _ _ us hl => match us, hl with | [_], _ => rfl) fun cdv A o s H E hr => ?_
    refine ⟨_, (pss_cons (ps_if (pt_cmpR op_eq (pe_callB (kc_len (K := K) rfl) (by rfl) T.m_len PySem.boot_len (pa_cons (pv 0) pa_nil)) pe_int (nomark _)) (pss_one (ps_ret (pe_lst (pa_cons (pe_tup pa_nil) pa_nil)))) pss_nil)
    (pss_cons (ps_set (i := 1) scOrders.nd rfl (by first | exact Or.inl rfl | exact Or.inr rfl) (pe_lst pa_nil))
    (pss_cons (ps_for (passes_of rfl) rfl (kp_enumT (K := K) rfl (pi_enumT (by rfl) T.m_enumerate (pa_cons (pv 0) pa_nil))) (kg_tup (K := K) (n := 2) rfl rfl (pgs_cons (pg_name (i := 2) scOrders.nd rfl (by first | exact Or.inl rfl | exact Or.inr rfl)) (pgs_cons (pg_name (i := 3) scOrders.nd rfl (by first | exact Or.inl rfl | exact Or.inr rfl)) pgs_nil))) (pss_one (ps_set (i := 1) scOrders.nd rfl (by first | exact Or.inl rfl | exact Or.inr rfl) (pe_op op_cat (pv 1) (pe_lc (own := [("_law_far", 4)]) (by rfl) scOrders.nd (kp_list (K := K) rfl (pe_cal C_law_orders hr (pa_cons (pe_op (ko_catT (K := K) rfl) (pe_slice (ks_tup (K := K) rfl) (pv 0) po_none (po_some (pv 2))) (pe_slice (ks_tup (K := K) rfl) (pv 0) (po_some (pe_op op_add (pv 2) pe_int)) po_none)) pa_nil))) (blkOk_by (by kernel_rfl)) (fun _ _ _ _ _ => (pg_name (i := 4) scOrders.nd rfl (by first | exact Or.inl rfl | exact Or.inr rfl))) (fun _ _ _ _ _ => pts_nil) (fun _ _ _ _ _ => (pe_op (ko_catT (K := K) rfl) (pe_tup (pa_cons (pv 3) pa_nil)) (pv 4))))))))
    (pss_one (ps_ret (pv 1)))))), ?_⟩
    intro H B vs Ps P0 hs hp ⟨Qs, hP, hl, h4, hP0⟩ D q
    subst hP hP0
    obtain ⟨v, rfl, h0⟩ := one_of hp
    exact ord_body hs h0 hl h4 (fun B1 te σ Rs k h e => ev_fn (ea_cons e ea_nil) ⟨Rs, rfl, by omega, by omega, by
      have e : n = Rs.length := by omega
      rw [e]⟩) q
theorem scLists : FnScope ["_law_matter", "_law_own"] ["_law_matter"] (defScope (top 69)) := ⟨rfl, rfl, rfl, by decide +kernel, rfl, by decide +kernel, by decide +kernel⟩
theorem lists_body {H B : Hp} (hs : Same B H) {v : V} {d : PyData} (h0 : (DD K d).p v B) (h1 : noDict d = true) (h2 : wide d)
    {te : TE} (ht : ∀ B1 v1 d1 l, Same B B1 → (DD K d1).p v1 B1 → noDict d1 = true → wide d1 → lev d1 < lev d → Ev w0 l (l + 0) te [some v, some v1] B1 (DD K (listD d1))) {D : Ends} (q : ∀ n v B' H', At (fun _ => False) w0 n B H B' H' → (DD K (listD d)).p v B' → D.rt v H') :
    tRet (tIf (tTest (tCB (rIsiT K) (tCons (tVar 0) (tCons (tTup (tCons (tC (.ty "list")) (tCons (tC (.ty "tuple")) tNil))) tNil))))
      (tLc (iAny K (tVar 0)) (gName 1) tYes te [1]) (tVar 0)) D [some v, none] H := by
  refine s_ret (at0 hs) (ev_if (l := 0) (et_test (ev_isiLT (ev_var rfl h0) (.inl ⟨rfl, rfl⟩) (dict_of_no h1))) (fun hq => ?_) fun hq => (ev_var rfl ?_)) fun v B' H' a s hv => q _ v B' H' a hv
  · obtain ⟨ds, hd, hsq⟩ := sq_of h0 hq
    have hds : noDicts ds = true ∧ ds.length ≤ 90000 ∧ wides ds ∧ levs ds < lev d ∧ listD d = .list (ds.map listD) := by
      rcases hd with rfl | rfl
      · exact ⟨by simpa [noDict] using h1, h2.1, h2.2, Nat.lt_succ_self _, by rw [listD, listAll_map]⟩
      · exact ⟨by simpa [noDict] using h1, h2.1, h2.2, Nat.lt_succ_self _, by rw [listD, listAll_map]⟩
    obtain ⟨g1, g2, g3, g4, g5⟩ := hds
    rw [g5]
    exact Ev.z (n := 0) ((ev_lc1 (K := K) (c := 0) (fun d => DD K (listD d)) (es_any (ev_var rfl hsq)).s g2 fun x u B1 l hx s1 hu =>
      ⟨_, tg_name, rfl, ht B1 u x l s1 hu (noDicts_of g1 hx) (wides_of g3 hx) (Nat.lt_of_le_of_lt (levs_le hx) g4)⟩).imp fun _ _ z => map_ll (lo_li z))
  · have e : listD d = d := by
      cases d <;> first | rfl | (cases hq)
    rw [e]
    exact h0
theorem calLists (T : Txt K mg) : ∀ n, Cal P w K mg base (n + 1) "_law_lists" ["_law_matter"] (spF (GLists K n)) := by
  intro n
  induction n with
  | zero =>
    obtain ⟨fd, F⟩ := T.f_law_lists
    have C_law_lists : Cal P w K mg base 0 "_law_lists" ["_law_matter"] (fun _ _ _ _ => False) := ⟨_, fd, ⟨fun _ _ _ _ h => h.elim, fun _ _ _ _ _ _ _ _ _ _ _ _ _ h => h.elim⟩, T.g_law_lists, F.kp, F.bindsN fun _ _ _ _ _ _ us hl => match us, hl with | [_], _ => rfl⟩
    refine cal_of (k := 0) F T.g_law_lists scLists (fun Ps P ⟨_, e, _⟩ => by rw [e] <;> rfl) (fun _ _ _ _ _ _ us hl => match us, hl with | [_], _ => rfl) fun cdv A o s H E hr => ?_
    refine ⟨_, (pss_one (ps_ret (pe_ifExp (pt_val (pe_callB (kc_isiT (K := K) rfl) (by rfl) T.m_isinstance (by decide +kernel) (pa_cons (pv 0) (pa_cons (pe_tup (pa_cons (pe_bltn (v := .ty "list") (by rfl) T.m_list (by decide +kernel) rfl) (pa_cons (pe_bltn (v := .ty "tuple") (by rfl) T.m_tuple (by decide +kernel) rfl) pa_nil))) pa_nil)))) (pe_lc (own := [("_law_own", 1)]) (by rfl) scLists.nd (kp_any (K := K) rfl (pv 0)) (blkOk_by (by kernel_rfl)) (fun _ _ _ _ _ => (pg_name (i := 1) scLists.nd rfl (by first | exact Or.inl rfl | exact Or.inr rfl))) (fun _ _ _ _ _ => pts_nil) (fun _ _ _ _ _ => (pe_cal C_law_lists hr (pa_cons (pv 1) pa_nil)))) (pv 0)))), ?_⟩
    intro H B vs Ps P0 hs hp ⟨d, hP, h1, h2, h3, hP0⟩ D q
    subst hP hP0
    obtain ⟨v, rfl, h0⟩ := one_of hp
    exact lists_body hs h0 h1 h2 (fun B1 v1 d1 l s1 hv n1 w1 hl => absurd hl (by omega)) q
  | succ n ih =>
    obtain ⟨fd, F⟩ := T.f_law_lists
    have C_law_lists := ih
    refine cal_of (k := n + 1) F T.g_law_lists scLists (fun Ps P ⟨_, e, _⟩ => by rw [e] <;> rfl) (fun _ _ _ _ _ _ us hl => match us, hl with | [_], _ => rfl) fun cdv A o s H E hr => ?_
    refine ⟨_, (pss_one (ps_ret (pe_ifExp (pt_val (pe_callB (kc_isiT (K := K) rfl) (by rfl) T.m_isinstance (by decide +kernel) (pa_cons (pv 0) (pa_cons (pe_tup (pa_cons (pe_bltn (v := .ty "list") (by rfl) T.m_list (by decide +kernel) rfl) (pa_cons (pe_bltn (v := .ty "tuple") (by rfl) T.m_tuple (by decide +kernel) rfl) pa_nil))) pa_nil)))) (pe_lc (own := [("_law_own", 1)]) (by rfl) scLists.nd (kp_any (K := K) rfl (pv 0)) (blkOk_by (by kernel_rfl)) (fun _ _ _ _ _ => (pg_name (i := 1) scLists.nd rfl (by first | exact Or.inl rfl | exact Or.inr rfl))) (fun _ _ _ _ _ => pts_nil) (fun _ _ _ _ _ => (pe_cal C_law_lists hr (pa_cons (pv 1) pa_nil)))) (pv 0)))), ?_⟩
    intro H B vs Ps P0 hs hp ⟨d, hP, h1, h2, h3, hP0⟩ D q
    subst hP hP0
    obtain ⟨v, rfl, h0⟩ := one_of hp
    exact lists_body hs h0 h1 h2 (fun B1 v1 d1 l s1 hv n1 w1 hl => ev_fn (ea_cons (ev_var rfl hv) ea_nil) ⟨d1, rfl, n1, w1, by omega, rfl⟩) q
end
end Pk


set_option Elab.async false
set_option linter.all false
set_option maxRecDepth 100000
set_option maxHeartbeats 4000000
/-! Pk15: what is asked of a list of one's own. -/
namespace Pk
open PySem PySem.Spec PyProof.Rows L2 PySem.W
section
variable {X : Cx} {K : PySem.W.Frag}
theorem kc_sortD (q : X.K = K) (hu : X.A.units + 64 < cLine) : CallR X (.builtin "sorted") (rSortedD K) := by subst q; exact cr_sortedD hu
theorem kc_minD (q : X.K = K) (hc : X.calm = true) (hu : X.A.units + 64 < cLine) : CallR X (.builtin "min") (rMinD K) := by subst q; exact cr_minD hc hu
end
section
variable {S0 : Addr → Prop} {w : Wd} {n m l : Nat} {K : PySem.W.Frag} {B0 H0 B H : Hp} {D : Ends} {σ : L2.St} {te tb : TE} {tz : TS} {P : Pr} {i j : Nat} {a : Addr} {vs : List V} {ds : List PyData}
theorem ev_sortW (hi : σ[i]? = some (some (.ref a))) (hp : PsAt vs (ds.map (DD K)) B) (ha : AllAlike ds) (hs : Sortable ds) (hd : ∀ d ∈ ds, d.depth ≤ 32) (hl : ds.length ≤ 90000) :
    Ev (wl w a (.lst vs)) n n (tCB (rSortedD K) (tCons (tVar i) tNil)) σ B (LoP K ((ds.mergeSort (dataLe false id)).map (DD K))) := fun B1 s1 H c Q q =>
  ⟨.ref a, hi, a, vs, ds, rfl, sl_of c.wd.2, dpAll_same c.sub ds vs (psAt_dpAll (psAt_same s1 hp)), ha, hs, hd, hl, fun ys p hp2 hn => go_newLo (K := K) (ps_map (hp2 (fun v d => (DD K d).p v B1) (zip_at (psAt_same s1 hp)))) H c Q q p hn⟩
theorem ev_neW {e : PyData} (hi : σ[i]? = some (some (.ref a))) (hp : PsAt vs (ds.map (DD K)) B) (hb : Ev (wl w a (.lst vs)) n m tb σ B (DD K e)) (h1 : SeqAt.shaped (.list ds) = true) (h2 : SeqAt.shaped e = true) :
    Ev (wl w a (.lst vs)) n m (tOp (rNeD K) (tVar i) tb) σ B (dB K (!PyData.eqv (.list ds) e)) := fun B1 s1 H c Q q =>
  ⟨.ref a, hi, hb B1 s1 H c _ fun y B2 H2 g2 c2 hy => ⟨.list ds, e, .lst (sl_of c2.wd.2) (dpAll_same (s1.trans (g2.ex.trans c2.sub)) ds vs (psAt_dpAll hp)), dp_same c2.sub e y hy, h1, h2, q _ B2 H2 g2 c2 (.bl _)⟩⟩
theorem ev_eqW {e : PyData} (hi : σ[i]? = some (some (.ref a))) (hp : PsAt vs (ds.map (DD K)) B) (hb : Ev (wl w a (.lst vs)) n m tb σ B (DD K e)) (h1 : SeqAt.shaped (.list ds) = true) (h2 : SeqAt.shaped e = true) :
    Ev (wl w a (.lst vs)) n m (tOp (rEqD K) (tVar i) tb) σ B (dB K (PyData.eqv (.list ds) e)) := fun B1 s1 H c Q q =>
  ⟨.ref a, hi, hb B1 s1 H c _ fun y B2 H2 g2 c2 hy => ⟨.list ds, e, .lst (sl_of c2.wd.2) (dpAll_same (s1.trans (g2.ex.trans c2.sub)) ds vs (psAt_dpAll hp)), dp_same c2.sub e y hy, h1, h2, q _ B2 H2 g2 c2 (.bl _)⟩⟩
/-- a, b = e, [] -/
theorem q_parNil (t : At S0 w n B0 H0 B H) (h : Ev w n m te σ B P) (q : ∀ v a B' H', At S0 (wl w a (.lst [])) m B0 H0 B' H' → Same B B' → P.p v B' → ¬ w.S a → H0 a = none → tz D ((σ.set i (some v)).set j (some (.ref a))) H') :
    tSeq (tPar i j (tCons te (tCons (tLst tNil) tNil))) tz D σ H :=
  t.use (Q := fun v H1 => tLst tNil σ H1 fun x H2 => ∃ v' u, [v, x] = [v', u] ∧ tz D ((σ.set i (some v')).set j (some u)) H2) (h B (Same.refl B)) fun v B' H' t' s' hv => ⟨Nat.zero_le _, fun a ha => ⟨v, .ref a, rfl, q v a B' _ (t'.more ha) s' hv (t'.c.notS ha) (by
    cases e : H0 a with
    | none => rfl
    | some u => exact absurd ha (t'.g.has a (by rw [e]; exact Option.some_ne_none u)))⟩⟩
theorem s_parNil (t : At S0 w n B0 H0 B H) (h : Ev w n m te σ B P) (q : ∀ v a B' H', At S0 (wl w a (.lst [])) m B0 H0 B' H' → Same B B' → P.p v B' → ¬ w.S a → H0 a = none → D.nx ((σ.set i (some v)).set j (some (.ref a))) H') :
    tPar i j (tCons te (tCons (tLst tNil) tNil)) D σ H :=
  t.use (Q := fun v H1 => tLst tNil σ H1 fun x H2 => ∃ v' u, [v, x] = [v', u] ∧ D.nx ((σ.set i (some v')).set j (some u)) H2) (h B (Same.refl B)) fun v B' H' t' s' hv => ⟨Nat.zero_le _, fun a ha => ⟨v, .ref a, rfl, q v a B' _ (t'.more ha) s' hv (t'.c.notS ha) (by
    cases e : H0 a with
    | none => rfl
    | some u => exact absurd ha (t'.g.has a (by rw [e]; exact Option.some_ne_none u)))⟩⟩
end
end Pk


set_option Elab.async false
set_option linter.all false
set_option maxRecDepth 100000
set_option maxHeartbeats 4000000
/-! PkF9: _law_plain. -/
namespace Pk
open PySem PySem.Spec PyProof.Rows L2 PkH PySem.W
def brk (edge : List (Str × Str)) (p : Str × Str) : Bool := match edge with
  | [] => false
  | q :: _ => !decide (q.1 = p.1)
def sortP (es : List (Str × Str)) : List (Str × Str) := es.mergeSort (dataLe false eSS)
def plainStep (st : List (Str × Str) × List (Str × Str)) (p : Str × Str) : List (Str × Str) × List (Str × Str) :=
  if brk st.2 p = true then (st.1 ++ sortP st.2, [p]) else (st.1, st.2 ++ [p])
def lawPlain (l : List (Str × Str)) : List (Str × Str) := (l.foldl plainStep ([], [])).1 ++ sortP (l.foldl plainStep ([], [])).2
/-- short texts -/
def okS (x : Str) : Prop := x.length ≤ 8 ∧ PyData.strOk x = true
def okP (p : Str × Str) : Prop := okKind p.1 ∧ okS p.2
def GLPlain (K : PySem.W.Frag) : List Pr → Pr → Prop := fun Ps P => ∃ l : List (Str × Str), Ps = [DD K (eLine l)] ∧ l.length ≤ 8 ∧ (∀ p ∈ l, okP p) ∧ P = DD K (eLine (lawPlain l))
theorem atI_zero {α : Type} (x : α) (l : List α) : atI (x :: l) 0 = some x := by
  unfold atI ixN
  simp
theorem alike_ss (p q : Str × Str) : alike (eSS p) (eSS q) = true := by
  simp [eSS, alike, alikeAll]
theorem ss_alike (es : List (Str × Str)) : AllAlike (es.map eSS) := fun d hd e he => by
  obtain ⟨p, _, rfl⟩ := List.mem_map.mp hd
  obtain ⟨q, _, rfl⟩ := List.mem_map.mp he
  exact alike_ss p q
theorem ss_sortable (es : List (Str × Str)) : Sortable (es.map eSS) := .inl fun d hd => by
  obtain ⟨p, _, rfl⟩ := List.mem_map.mp hd
  exact ⟨_, _, rfl⟩
theorem ss_depth (p : Str × Str) : (eSS p).depth = 1 := by
  simp [eSS, PyData.depth, PyData.depthAll]
theorem sortP_map (es : List (Str × Str)) : (sortP es).map eSS = (es.map eSS).mergeSort (dataLe false id) := sort_maps (r := dataLe false eSS) (s := dataLe false id) eSS fun a _ b _ => rfl
theorem sortP_perm (es : List (Str × Str)) : (sortP es).Perm es := List.mergeSort_perm es _
theorem eqv_nil (ds : List PyData) : PyData.eqv (.list ds) (.list []) = ds.isEmpty := by
  cases ds <;> rfl
theorem shaped_sss (es : List (Str × Str)) (h : ∀ p ∈ es, okP p) : SeqAt.shaped (.list (es.map eSS)) = true := by
  have z : ∀ es : List (Str × Str), (∀ p ∈ es, okP p) → PyData.canLayAll0 (es.map eSS) = true ∧ PyData.depthAll (es.map eSS) ≤ 1 := by
    intro es
    induction es with
    | nil => intro _; exact ⟨rfl, Nat.zero_le _⟩
    | cons p es ih =>
      intro h
      obtain ⟨h1, h2⟩ := ih fun q hq => h q (List.mem_cons_of_mem _ hq)
      have hp := h p List.mem_cons_self
      rw [List.map_cons]
      refine ⟨?_, ?_⟩
      · simp [PyData.canLayAll0, eSS, PyData.canLay0, hp.1.ok, hp.2.2, h1]
      · simp [PyData.depthAll, ss_depth, h2]
  obtain ⟨h1, h2⟩ := z es h
  simp [SeqAt.shaped, PyData.canLay0, h1, PyData.depth]
  omega
theorem foldPlain_len : ∀ (l : List (Str × Str)) (st : List (Str × Str) × List (Str × Str)), (l.foldl plainStep st).1.length + (l.foldl plainStep st).2.length = st.1.length + st.2.length + l.length
  | [], st => rfl
  | p :: l, st => by
    rw [List.foldl_cons, foldPlain_len l, List.length_cons]
    unfold plainStep
    split
    · rw [List.length_append, (sortP_perm st.2).length_eq, List.length_singleton]
      omega
    · show st.1.length + (st.2 ++ [p]).length + l.length = _
      rw [List.length_append, List.length_singleton]
      omega
theorem foldPlain_in : ∀ (l : List (Str × Str)) (st : List (Str × Str) × List (Str × Str)) (R : Str × Str → Prop), (∀ p ∈ l, R p) → (∀ p ∈ st.2, R p) → ∀ p ∈ (l.foldl plainStep st).2, R p
  | [], st, R, _, h => h
  | q :: l, st, R, hl, h => by
    rw [List.foldl_cons]
    refine foldPlain_in l _ R (fun p hp => hl p (List.mem_cons_of_mem _ hp)) ?_
    unfold plainStep
    split
    · intro p hp
      rw [List.mem_singleton.mp hp]
      exact hl q List.mem_cons_self
    · intro p hp
      rcases List.mem_append.mp hp with hp | hp
      · exact h p hp
      · rw [List.mem_singleton.mp hp]
        exact hl q List.mem_cons_self
section
variable {S0 : Addr → Prop} {w : Wd} {n : Nat} {B0 H0 B H : Hp} {a a' : Addr} {o o' : HO}
theorem At.drop2 (t : At S0 (wl (wl w a o) a' o') n B0 H0 B H) : At S0 (wl w a' o') n B0 H0 B H :=
  ⟨⟨t.c.sub, fun b s => t.c.cl b (s.imp .inl id), ⟨t.c.wd.1.1, t.c.wd.2⟩⟩, t.g, fun b s => t.nw b (s.imp .inl id)⟩
end
section
variable {P : Program} {w : World} {K : PySem.W.Frag} {mg : Str → Option Value} {base : Heap} {B : Hp}
theorem scLPlain : FnScope ["_law_line_so", "_law_found", "_law_edge_so", "_law_kind_so", "_law_own"] ["_law_line_so"] (defScope (top 63)) := ⟨rfl, rfl, rfl, by decide +kernel, rfl, by decide +kernel, by decide +kernel⟩
theorem ssP {ps : List (Str × Str)} : (ps.map fun p => DD K (eSS p)) = (ps.map eSS).map (DD K) := by rw [List.map_map] <;> rfl
theorem calLPlain (T : Txt K mg) : Cal P w K mg base 1 "_law_plain" ["_law_line_so"] (spF (GLPlain K)) := by
  obtain ⟨fd, F⟩ := T.f_law_plain
  refine cal_of (k := 0) F T.g_law_plain scLPlain (fun Ps P ⟨_, e, _⟩ => by rw [e] <;> rfl) (fun _ _ _ _ _ _ us hl => match us, hl with | [_], _ => rfl) fun cdv A o s H E hr => ?_
  refine ⟨_, (pss_cons (ps_par (i := 1) (j := 2) (by rfl) scLPlain.nd rfl rfl (by decide) rfl rfl (pa_cons (pe_lst pa_nil) (pa_cons (pe_lst pa_nil) pa_nil)) (by rfl))
    (pss_cons (ps_for (passes_of rfl) rfl (kp_tup (K := K) rfl (pv 0)) (kg_tup (K := K) (n := 2) rfl rfl (pgs_cons (pg_name (i := 3) scLPlain.nd rfl (by first | exact Or.inl rfl | exact Or.inr rfl)) (pgs_cons (pg_name (i := 4) scLPlain.nd rfl (by first | exact Or.inl rfl | exact Or.inr rfl)) pgs_nil))) (pss_cons (ps_if (PW.pt (pw_and (pt_cmpR (ko_ne (K := K) rfl hr.units) (pv 2) (pe_lst pa_nil) (nomark _)) (pw_and1 (pt_cmpR (ko_ne (K := K) rfl hr.units) (pe_ix (kx_tup (K := K) rfl) (pe_ix (kx_list (K := K) rfl) (pv 2) pe_int (fun _ _ => rfl)) pe_int (fun _ _ => rfl)) (pv 3) (nomark _))))) (pss_one (ps_par (i := 1) (j := 2) (by rfl) scLPlain.nd rfl rfl (by decide) rfl rfl (pa_cons (pe_op op_cat (pv 1) (pe_callB (kc_sortD (K := K) rfl hr.units) (by rfl) T.m_sorted (by decide +kernel) (pa_cons (pv 2) pa_nil))) (pa_cons (pe_lst pa_nil) pa_nil)) (by rfl))) pss_nil)
    (pss_one (ps_expr (ke_bm (K := K) rfl (pe_bm PySem.F.plainAttrs_list PySem.F.slot_list_append PySem.F.type_list_append mt_append (pv 2) (pa_cons (pe_tup (pa_cons (pv 3) (pa_cons (pv 4) pa_nil))) pa_nil)))))))
    (pss_one (ps_ret (pe_callTy (kc_tup (K := K) rfl) (by rfl) T.m_tuple (by decide +kernel) (pa_cons (pe_op op_cat (pv 1) (pe_callB (kc_sortD (K := K) rfl hr.units) (by rfl) T.m_sorted (by decide +kernel) (pa_cons (pv 2) pa_nil))) pa_nil)))))), ?_⟩
  intro H B vs Ps P0 hs hp ⟨l, hP, hl, hk, hP0⟩ D q
  subst hP hP0
  obtain ⟨lv, rfl, h0⟩ := one_of hp
  refine q_parNil (m := 0) (P := LoP K []) (at0 hs) (ev_lst' ea_nil) fun f0 a B1 H1 t1 s1 hf0 hw ha => ?_
  refine q_for (m := 0) (xs := l) (Y := fun p => DD K (eSS p)) (fun i Bs u k σ B1 => ∃ a vs f x3 x4, u = wl w0 a (.lst vs) ∧ ¬ w0.S a ∧ H a = none ∧ σ = [some lv, some f, some (.ref a), x3, x4] ∧ PsAt vs ((((l.take i).foldl plainStep ([], [])).2.map eSS).map (DD K)) B1 ∧ (LoP K ((((l.take i).foldl plainStep ([], [])).1.map eSS).map (DD K))).p f B1)
    t1 (es_tup (K := K) (ev_var (i := 0) rfl (tt_line (dd_up h0 s1)))) (fun B2 s2 => ⟨a, [], f0, none, none, rfl, hw, ha, rfl, .nil, Pr.up hf0 s2⟩) ?turn ?done
  case turn =>
    intro i p v Bs u k σ' B1 B2 H2 ex s2 s3 ⟨a, vs, f, x3, x4, hu, hw, ha, hσ, hps, hf⟩ t s4 hv
    subst hu hσ
    obtain ⟨pa, v1, v2, rfl, hT, e1, e2⟩ := two_ss hv
    refine tg_two hT H2 _ t.c.sub ?_
    have hps2 := psAt_same s4 hps
    have hf2 := Pr.up hf s4
    have hnext := foldl_take plainStep l ([], []) ex
    have hlen := foldPlain_len (l.take i) ([], [])
    have hin := foldPlain_in (l.take i) ([], []) okP (fun p hp => hk p (List.mem_of_mem_take hp)) (fun p hp => by cases hp)
    have htk : (l.take i).length ≤ 8 := by rw [List.length_take]; omega
    generalize (l.take i).foldl plainStep ([], []) = st at hps2 hf2 hnext hlen hin
    obtain ⟨fnd, edge⟩ := st
    simp only at hps2 hf2 hlen hin
    have lv2 := ps_len hps2
    rw [List.length_map, List.length_map] at lv2
    simp only [List.length_nil] at hlen
    have fin : ∀ a' us f' fnd' edge' B' H' k', At (fun _ => False) (wl w0 a' (.lst us)) k' B H B' H' → ¬ w0.S a' → H a' = none → Same B2 B' → PsAt us ((edge'.map eSS).map (DD K)) B' → (LoP K ((fnd'.map eSS).map (DD K))).p f' B' → us.length ≤ 90000 → plainStep (fnd, edge) p = (fnd', edge' ++ [p]) →
        ∀ D2 : Ends, D2.nx = Lp (fun _ => False) B H Bs (fun i Bs u k σ B1 => ∃ a vs f x3 x4, u = wl w0 a (.lst vs) ∧ ¬ w0.S a ∧ H a = none ∧ σ = [some lv, some f, some (.ref a), x3, x4] ∧ PsAt vs ((((l.take i).foldl plainStep ([], [])).2.map eSS).map (DD K)) B1 ∧ (LoP K ((((l.take i).foldl plainStep ([], [])).1.map eSS).map (DD K))).p f B1) (i + 1) →
        tDrop (tBM K "list" rAppend (tVar 2) (tCons (tTup (tCons (tVar 3) (tCons (tVar 4) tNil))) tNil)) D2 [some lv, some f', some (.ref a'), some v1, some v2] H' := fun a' us f' fnd' edge' B' H' k' t' hw' ha' s' hps' hf' hl' hst D2 hD2 => by
      refine s_app (D := D2) (m := k') t' hw' ha' rfl hl' ((ev_tup (K := K) (ea_cons (ev_var rfl (dd_up e1 s')) (ea_cons (ev_var rfl (dd_up e2 s')) ea_nil))).imp fun _ _ z => tt_dd (ds := [.str p.1, .str p.2]) z) fun v B3 H3 t3 s5 hv => by
        rw [hD2]
        refine ⟨_, _, B3, t3, (s3.trans s4).trans (s'.trans s5), a', us ++ [v], f', some v1, some v2, rfl, hw', ha', rfl, ?_, ?_⟩
        · rw [hnext, hst]
          simp only [List.map_append, List.map_cons, List.map_nil]
          exact ps_snoc (psAt_same s5 hps') hv
        · rw [hnext, hst]
          exact Pr.up hf' s5
    have hsh := shaped_sss edge hin
    have hnil : SeqAt.shaped (.list []) = true := by simp [SeqAt.shaped, PyData.canLay0, PyData.canLayAll0, PyData.depth, PyData.depthAll]
    refine q_when (m := k) (b := brk edge p) t (EvT.to (et_and (a := !edge.isEmpty) (b := brk edge p) (et_test ((ev_neW rfl hps2 ((ev_lst (K := K) (m := k) ea_nil).imp fun _ _ z => ll_dd (ds := []) z) hsh hnil).to (by rw [eqv_nil, List.isEmpty_map]))) fun hne => ?_) ?_) (fun hb B' H' t' s' => ?_) fun hb B' H' t' s' => ?_
    · cases edge with
      | nil => cases hne
      | cons qq edge =>
        obtain ⟨us, rfl⟩ : ∃ us, vs = us := ⟨vs, rfl⟩
        cases hps2 with
        | cons hq hr =>
          refine et_test ((ev_op (ev_op (ev_ixW (P := TuP K [dS K qq.1, dS K qq.2]) rfl (ev_int (K := K)) (j := 0) (atI_zero _ _) (dd_tt hq)) (ev_int (K := K)) (rv_ixT (i := 0) rfl)) (ev_var rfl e1) (rv_neD (K := K) (d := .str qq.1) (e := .str p.1) ?_ ?_)).to (by rw [eqv_str] <;> rfl))
          · exact shaped_str (hin qq List.mem_cons_self).1.ok
          · exact shaped_str (hk p (List.mem_of_getElem? ex)).1.ok
    · cases edge <;> simp [brk]
    · have hps3 := psAt_same s' hps2
      have hf3 := Pr.up hf2 s'
      refine s_parNil (m := k) (P := LoP K (((fnd ++ sortP edge).map eSS).map (DD K))) t' ?_ fun f' a' B3 H3 t3 s5 hf' hw' ha' => fin a' [] f' (fnd ++ sortP edge) [] B3 H3 k t3.drop2 (fun z => hw' (.inl z)) ha' (s'.trans s5) .nil hf' (Nat.zero_le _) (by
        unfold plainStep
        rw [if_pos hb] <;> rfl) _ rfl
      rw [List.map_append, List.map_append, sortP_map]
      refine ev_op (ev_var rfl hf3) (ev_sortW rfl hps3 (ss_alike edge) (ss_sortable edge) ?_ ?_) (rv_cat ?_)
      · intro d hd
        obtain ⟨p, _, rfl⟩ := List.mem_map.mp hd
        rw [ss_depth]
        decide
      · rw [List.length_map]
        omega
      · rw [← sortP_map, List.length_map, List.length_map, List.length_map, List.length_map, (sortP_perm edge).length_eq]
        omega
    · exact fin a vs f fnd edge B' H' k t' hw ha s' (psAt_same s' hps2) (Pr.up hf2 s') (by omega) (by
        unfold plainStep
        rw [if_neg (by rw [hb]; decide)]) _ rfl
  case done =>
    intro Bs u k σ' B1 H1 s2 s3 t ⟨a, vs, f, x3, x4, hu, hw, ha, hσ, hps, hf⟩
    subst hu hσ
    rw [List.take_length] at hps hf
    have hlen := foldPlain_len l ([], [])
    have hin := foldPlain_in l ([], []) okP hk (fun p hp => by cases hp)
    have e0 : lawPlain l = (l.foldl plainStep ([], [])).1 ++ sortP (l.foldl plainStep ([], [])).2 := rfl
    rw [e0] at q
    generalize l.foldl plainStep ([], []) = st at hps hf hlen hin q
    obtain ⟨fnd, edge⟩ := st
    simp only [List.length_nil] at hps hf hlen hin q
    refine s_ret (P := DD K (eLine (fnd ++ sortP edge))) t ((ev_cb (ea_cons (ev_lo (ev_op (ev_var rfl hf) (ev_sortW rfl hps (ss_alike edge) (ss_sortable edge) ?d1 ?d2) (rv_cat ?d3))) ea_nil) rc_tupL).imp fun _ _ z => ?d4) fun v B' H' a s hv => q _ v B' H' (At.drop a) hv
    case d1 =>
      intro d hd
      obtain ⟨p, _, rfl⟩ := List.mem_map.mp hd
      rw [ss_depth]
      decide
    case d2 =>
      rw [List.length_map]
      omega
    case d3 =>
      rw [← sortP_map, List.length_map, List.length_map, List.length_map, List.length_map, (sortP_perm edge).length_eq]
      omega
    case d4 =>
      refine map_tt ?_
      rw [ssP, List.map_append, List.map_append, sortP_map]
      exact z
end
end Pk


set_option Elab.async false
set_option linter.all false
set_option maxRecDepth 100000
set_option maxHeartbeats 4000000
/-! PkF10: _law_fitting. -/
namespace Pk
open PySem PySem.Spec PyProof.Rows L2 PkH PySem.W
def fits (l : List (Str × Str)) (rows : List (List Str × Str)) : Bool := rows.all fun r => decide (outer l r.1 = r.2)
def fittingF (every : List (Str × List (Str × Str))) (rows : List (List Str × Str)) : List (Str × List (Str × Str)) := every.filter fun t => fits t.2 rows
def eTL (t : Str × List (Str × Str)) : PyData := .tuple [.str t.1, eLine t.2]
def okRow (r : List Str × Str) : Prop := (∀ x ∈ r.1, okS x) ∧ okKind r.2
def GFit (K : PySem.W.Frag) : List Pr → Pr → Prop := fun Ps P => ∃ every rows, Ps = [LiP K (every.map fun t => DD K (eTL t)), SqP K (rows.map fun r => DD K (eRow r))] ∧ every.length ≤ 1000 ∧ rows.length ≤ 64 ∧ (∀ t ∈ every, t.2.length ≤ 64) ∧
  (∀ r ∈ rows, okRow r) ∧ (∀ t ∈ every, ∀ r ∈ rows, ∃ p ∈ t.2, p.2 ∈ r.1) ∧ P = LoP K ((fittingF every rows).map fun t => DD K (eTL t))
theorem lay_strs : ∀ (xs : List Str), (∀ x ∈ xs, okS x) → PyData.canLayAll0 (xs.map .str) = true ∧ PyData.depthAll (xs.map PyData.str) = 0
  | [], _ => ⟨rfl, rfl⟩
  | x :: xs, h => by
    obtain ⟨h1, h2⟩ := lay_strs xs fun y hy => h y (List.mem_cons_of_mem _ hy)
    have hx := h x List.mem_cons_self
    rw [List.map_cons]
    exact ⟨by simp [PyData.canLayAll0, PyData.canLay0, hx.2, h1], by simp [PyData.depthAll, PyData.depth, h2]⟩
theorem lay_row {r : List Str × Str} (h : okRow r) : PyData.canLay0 (eRow r) = true ∧ (eRow r).depth ≤ 2 := by
  obtain ⟨h1, h2⟩ := lay_strs r.1 h.1
  refine ⟨?_, ?_⟩
  · simp [eRow, eTS, PyData.canLay0, PyData.canLayAll0, h1, h.2.ok]
  · simp [eRow, eTS, PyData.depth, PyData.depthAll, h2]
theorem lay_rows : ∀ (rs : List (List Str × Str)), (∀ r ∈ rs, okRow r) → PyData.canLayAll0 (rs.map eRow) = true ∧ PyData.depthAll (rs.map eRow) ≤ 2
  | [], _ => ⟨rfl, Nat.zero_le _⟩
  | r :: rs, h => by
    obtain ⟨h1, h2⟩ := lay_rows rs fun y hy => h y (List.mem_cons_of_mem _ hy)
    obtain ⟨g1, g2⟩ := lay_row (h r List.mem_cons_self)
    rw [List.map_cons]
    exact ⟨by simp [PyData.canLayAll0, g1, h1], by simp only [PyData.depthAll]; omega⟩
theorem shaped_rows {rs : List (List Str × Str)} (h : ∀ r ∈ rs, okRow r) : SeqAt.shaped (.list (rs.map eRow)) = true := by
  obtain ⟨h1, h2⟩ := lay_rows rs h
  simp [SeqAt.shaped, PyData.canLay0, h1, PyData.depth]
  omega
theorem shaped_nil : SeqAt.shaped (.list []) = true := by simp [SeqAt.shaped, PyData.canLay0, PyData.canLayAll0, PyData.depth, PyData.depthAll]
theorem fits_empty (l : List (Str × Str)) (rows : List (List Str × Str)) : (rows.filter fun r => !decide (outer l r.1 = r.2)).isEmpty = fits l rows := by
  unfold fits
  induction rows with
  | nil => rfl
  | cons r rows ih =>
    rw [List.filter_cons, List.all_cons]
    by_cases h : outer l r.1 = r.2
    · simp [h, ih]
    · simp [h]
section
variable {P : Program} {w : World} {K : PySem.W.Frag} {mg : Str → Option Value} {base : Heap} {B : Hp}
theorem scFit : FnScope ["_law_every_so", "_law_pairs_so", "_law_found", "_law_text_so", "_law_line_so", "_law_own"] ["_law_every_so", "_law_pairs_so"] (defScope (top 66)) := ⟨rfl, rfl, rfl, by decide +kernel, rfl, by decide +kernel, by decide +kernel⟩
theorem sq_up {Ps : List Pr} {v : V} {B B' : Hp} (h : (SqP K Ps).p v B) (s : Same B B') : (SqP K Ps).p v B' := (SqP K Ps).mono v B B' s h
theorem calFit (T : Txt K mg) : Cal P w K mg base 2 "_law_fitting" ["_law_every_so", "_law_pairs_so"] (spF (GFit K)) := by
  obtain ⟨fd, F⟩ := T.f_law_fitting
  have C_law_outer := calOuter (P := P) (w := w) (base := base) T
  refine cal_of (k := 1) F T.g_law_fitting scFit (fun Ps P ⟨_, _, e, _⟩ => by rw [e] <;> rfl) (fun _ _ _ _ _ _ us hl => match us, hl with | [_, _], _ => rfl) fun cdv A o s H E hr => ?_
  refine ⟨_, (pss_cons (ps_set (i := 2) scFit.nd rfl (by first | exact Or.inl rfl | exact Or.inr rfl) (pe_lst pa_nil))
    (pss_cons (ps_for (passes_of rfl) rfl (kp_list (K := K) rfl (pv 0)) (kg_tup (K := K) (n := 2) rfl rfl (pgs_cons (pg_name (i := 3) scFit.nd rfl (by first | exact Or.inl rfl | exact Or.inr rfl)) (pgs_cons (pg_name (i := 4) scFit.nd rfl (by first | exact Or.inl rfl | exact Or.inr rfl)) pgs_nil))) (pss_one (ps_if (pt_cmpR (ko_eq (K := K) rfl hr.units) (pe_lc (own := [("_law_own", 5)]) (by rfl) scFit.nd (kp_any (K := K) rfl (pv 1)) (blkOk_by (by kernel_rfl)) (fun _ _ _ _ _ => (pg_name (i := 5) scFit.nd rfl (by first | exact Or.inl rfl | exact Or.inr rfl))) (fun _ _ _ _ _ => (pts_one (pt_cmpR op_ne (pe_cal C_law_outer hr (pa_cons (pv 4) (pa_cons (pe_ix (kx_tup (K := K) rfl) (pv 5) pe_int (fun _ _ => rfl)) pa_nil))) (pe_ix (kx_tup (K := K) rfl) (pv 5) pe_int (fun _ _ => rfl)) (nomark _)))) (fun _ _ _ _ _ => (pv 5))) (pe_lst pa_nil) (nomark _)) (pss_one (ps_expr (ke_bm (K := K) rfl (pe_bm PySem.F.plainAttrs_list PySem.F.slot_list_append PySem.F.type_list_append mt_append (pv 2) (pa_cons (pe_tup (pa_cons (pv 3) (pa_cons (pv 4) pa_nil))) pa_nil))))) pss_nil)))
    (pss_one (ps_ret (pv 2))))), ?_⟩
  intro H B vs Ps P0 hs hp ⟨every, rows, hP, hl, hl2, hl3, hk, hne, hP0⟩ D q
  subst hP hP0
  obtain ⟨ev, rv, rfl, h0, h1⟩ := two_at hp
  refine q_nil (at0 hs) fun a H1 t1 hw ha => ?_
  refine q_for (m := 0) (xs := every) (Y := fun t => DD K (eTL t)) (fun i Bs u k σ B1 => ∃ vs x3 x4, u = wl w0 a (.lst vs) ∧ σ = [some ev, some rv, some (.ref a), x3, x4, none] ∧ PsAt vs ((fittingF (every.take i) rows).map fun t => DD K (eTL t)) B1) t1 (es_list (K := K) (ev_var (i := 0) rfl h0)) (fun B2 s2 => ⟨[], none, none, rfl, rfl, .nil⟩) ?turn ?done
  case turn =>
    intro i p v Bs u k σ' B1 B2 H2 ex s2 s3 ⟨vs, x3, x4, hu, hσ, hps⟩ t s4 hv
    subst hu hσ
    have hv0 := hv
    obtain ⟨pa, v1, v2, rfl, hT, e1, e2⟩ := two_of (dd_tt hv)
    have hmem := List.mem_of_getElem? ex
    refine tg_two hT H2 _ t.c.sub ?_
    have hps2 := psAt_same s4 hps
    have hnext : fittingF (every.take (i + 1)) rows = fittingF (every.take i) rows ++ (if fits p.2 rows = true then [p] else []) := by
      unfold fittingF
      rw [take_next ex, List.filter_append, List.filter_cons, List.filter_nil]
    have lv := ps_len hps2
    rw [List.length_map] at lv
    have lf := List.length_filter_le (fun t : Str × List (Str × Str) => fits t.2 rows) (every.take i)
    rw [List.length_take] at lf
    have lvs : vs.length ≤ 90000 := by
      have e : (fittingF (every.take i) rows).length = ((every.take i).filter fun t => fits t.2 rows).length := rfl
      omega
    have hrs : (SqP K (rows.map fun r => DD K (eRow r))).p rv B2 := sq_up h1 ((s2.trans s3).trans s4)
    refine s_when (m := k + rows.length * 0) (b := fits p.2 rows) t (et_test ((ev_op (ev_lod (ds := (rows.filter fun r => !decide (outer p.2 r.1 = r.2)).map eRow) ((ev_lc (K := K) (c := 0) (fun r => !decide (outer p.2 r.1 = r.2)) (fun r => DD K (eRow r)) (es_any (ev_var rfl hrs)).s (by omega) ?turn2).to (by rw [List.map_map] <;> rfl))) ((ev_lst (K := K) ea_nil).imp fun _ _ z => ll_dd (ds := []) z) (rv_eqD (K := K) (shaped_rows ?ok) shaped_nil)).to (by rw [eqv_nil, List.isEmpty_map, fits_empty]))) (fun hb B' H' t' s' => ?_) fun hb B' H' t' s' => ?_
    case turn2 =>
      intro r u B3 l hr2 s5 hu
      obtain ⟨pb, u1, u2, rfl, hT2, f1, f2⟩ := two_row hu
      have hrw : (TuP K [DD K (eTS r.1), dS K r.2]).p (.ref pb) B3 := dd_tt (ds := [eTS r.1, .str r.2]) hu
      refine ⟨_, tg_name, rfl, et_test (ev_op (ev_fn (ea_cons (ev_var rfl (dd_up e2 s5)) (ea_cons (ev_op (ev_var rfl hrw) (ev_int (K := K)) (rv_ixT (i := 0) rfl)) ea_nil)) ⟨p.2, r.1, rfl, hne p hmem r hr2, by have z := hl3 p hmem; omega, rfl⟩) (ev_op (ev_var rfl hrw) (ev_int (K := K)) (rv_ixT (i := 1) rfl)) rv_neS), fun _ => ev_var rfl hu⟩
    case ok =>
      intro r hr2
      exact hk r (List.mem_filter.mp hr2).1
    · refine s_app (m := k + rows.length * 0) t' (fun z => z) ha rfl lvs ((ev_tup (K := K) (ea_cons (ev_var rfl (dd_up e1 s')) (ea_cons (ev_var rfl (dd_up e2 s')) ea_nil))).imp fun _ _ z => tt_dd (ds := [.str p.1, eLine p.2]) z) fun v B3 H3 t3 s5 hv => ⟨_, _, B3, t3, (s3.trans s4).trans (s'.trans s5), vs ++ [v], some v1, some v2, rfl, rfl, ?_⟩
      rw [hnext, if_pos hb, List.map_append]
      exact ps_snoc (psAt_same (s'.trans s5) hps2) hv
    · refine ⟨_, _, B', t', (s3.trans s4).trans s', vs, some v1, some v2, rfl, rfl, ?_⟩
      rw [hnext, if_neg (by rw [hb]; decide), List.append_nil]
      exact psAt_same s' hps2
  case done =>
    intro Bs u k σ' B1 H1 s2 s3 t ⟨vs, x3, x4, hu, hσ, hps⟩
    subst hu hσ
    rw [List.take_length] at hps
    have t2 := t.less (fun z => z) ha
    exact s_ret (P := LoP K ((fittingF every rows).map fun t => DD K (eTL t))) t2 (ev_var rfl ⟨a, vs, rfl, upd_same, psAt_same (same_new t.outB) hps⟩) fun v B' H' a s hv => q _ v B' H' a hv
end
end Pk


set_option Elab.async false
set_option linter.all false
set_option maxRecDepth 100000
set_option maxHeartbeats 4000000
/-! PkF11: _law_left. -/
namespace Pk
open PySem PySem.Spec PyProof.Rows L2 PkH PySem.W
section
variable {S0 : Addr → Prop} {w : Wd} {n m l : Nat} {K : PySem.W.Frag} {B0 H0 B H : Hp} {D : Ends} {σ : L2.St} {ta : TA} {tt : TT} {tu : TS}
theorem s_for {α : Type} {wi : TI} {g : TG} {xs : List α} {Y : α → Pr} (I : Nat → Hp → Wd → Nat → L2.St → Hp → Prop) (t : At S0 w n B0 H0 B H) (hs : EvW w n m wi σ B xs Y)
    (h0 : ∀ B1, Same B B1 → I 0 B1 w m σ B1)
    (ht : ∀ i x v Bs u k σ' B1 B2 H2, xs[i]? = some x → Same B Bs → Same Bs B1 → I i Bs u k σ' B1 → At S0 u k B0 H0 B2 H2 → Same B1 B2 → (Y x).p v B2 →
      g v σ' H2 fun σ2 H3 => tu { D with nx := Lp S0 B0 H0 Bs I (i + 1), ct := Lp S0 B0 H0 Bs I (i + 1), bk := D.nx } σ2 H3)
    (hd : ∀ Bs u k σ' B1 H1, Same B Bs → Same Bs B1 → At S0 u k B0 H0 B1 H1 → I xs.length Bs u k σ' B1 → D.nx σ' H1) : tFor wi g tu D σ H := q_for (tz := fun _ => D.nx) I t hs h0 ht hd
/-- list(range(n)) -/
theorem ev_listRg {te : TE} {j : Nat} (h : Ev w n m te σ B (dI K (j : Int))) (hj : j ≤ 90000) : Ev w n m (tLstRg (tRg1 te)) σ B (LoP K ((List.range j).map fun i : Nat => dI K (i : Int))) := fun B1 s1 =>
  Go.bind (f := fun x H1 (Q : V → Hp → Prop) => ∃ n, x = V.int n ∧ RgOk 0 n ∧ ∀ q, H1 q = none → Q (.ref q) (upd H1 q (.lst (rgV 0 n)))) (h B1 s1) fun x B2 s2 hx H c Q q => by
    refine ⟨(j : Int), dd_int hx, RgOk.of_le (by omega) (by omega) (by omega) (by omega), go_newLo (K := K) ?_ H c Q q⟩
    have e : rgV 0 (j : Int) = ((List.range j).map fun i : Nat => (i : Int)).map V.int := by
      unfold rgV
      rw [List.map_map]
      have z : ((j : Int) - 0).toNat = j := by omega
      rw [z]
      refine List.map_congr_left fun i _ => ?_
      show V.int (0 + (i : Int)) = V.int (i : Int)
      rw [Int.zero_add]
    rw [e]
    have e2 : ((List.range j).map fun i : Nat => dI K (i : Int)) = ((List.range j).map fun i : Nat => (i : Int)).map (dI K) := by rw [List.map_map] <;> rfl
    rw [e2]
    exact ps_ints _
theorem ev_tupRg {te : TE} {j : Nat} (h : Ev w n m te σ B (dI K (j : Int))) (hj : j ≤ 90000) : Ev w n m (tTupRg (tRg1 te)) σ B (TuP K ((List.range j).map fun i : Nat => dI K (i : Int))) := fun B1 s1 =>
  Go.bind (f := fun x H1 (Q : V → Hp → Prop) => ∃ n, x = V.int n ∧ RgOk 0 n ∧ ∀ q, H1 q = none → Q (.ref q) (upd H1 q (.tup (rgV 0 n)))) (h B1 s1) fun x B2 s2 hx H c Q q => by
    refine ⟨(j : Int), dd_int hx, RgOk.of_le (by omega) (by omega) (by omega) (by omega), go_newT (K := K) ?_ H c Q q⟩
    have e : rgV 0 (j : Int) = ((List.range j).map fun i : Nat => (i : Int)).map V.int := by
      unfold rgV
      rw [List.map_map]
      have z : ((j : Int) - 0).toNat = j := by omega
      rw [z]
      refine List.map_congr_left fun i _ => ?_
      show V.int (0 + (i : Int)) = V.int (i : Int)
      rw [Int.zero_add]
    rw [e]
    have e2 : ((List.range j).map fun i : Nat => dI K (i : Int)) = ((List.range j).map fun i : Nat => (i : Int)).map (dI K) := by rw [List.map_map] <;> rfl
    rw [e2]
    exact ps_ints _
end
def rk (rows : List (List Str × Str)) (k : Nat) : List Str × Str := rows.getD k ([], "")
def lKinds (rows : List (List Str × Str)) (rest : List Nat) (own : Str) : List Str := (rest.filter fun k => decide (own ∈ (rk rows k).1)).map fun k => (rk rows k).2
def leftStep (rows : List (List Str × Str)) (st : List Str × List Nat) (own : Str) : List Str × List Nat :=
  if (setOf (lKinds rows st.2 own)).length < 2 then (st.1.filter fun x => !decide (x = own), st.2.filter fun k => !decide (own ∈ (rk rows k).1)) else st
def leftRound (rows : List (List Str × Str)) (st : List Str × List Nat) : List Str × List Nat := st.1.reverse.foldl (leftStep rows) st
def leftN (rows : List (List Str × Str)) : Nat → List Str × List Nat → List Str × List Nat
  | 0, st => st
  | n + 1, st => leftRound rows (leftN rows n st)
def leftF (tags : List Str) (rows : List (List Str × Str)) : List Nat := (leftN rows tags.length (tags, List.range rows.length)).2
def eInts (ks : List Nat) : PyData := .tuple (ks.map fun k : Nat => .int (k : Int))
def orNone (ks : List Nat) : PyData := if ks = [] then .none else eInts ks
theorem lay_ints : ∀ (ks : List Nat), PyData.canLayAll0 (ks.map fun k : Nat => PyData.int (k : Int)) = true ∧ PyData.depthAll (ks.map fun k : Nat => PyData.int (k : Int)) = 0
  | [] => ⟨rfl, rfl⟩
  | k :: ks => by
    obtain ⟨h1, h2⟩ := lay_ints ks
    rw [List.map_cons]
    exact ⟨by simp [PyData.canLayAll0, PyData.canLay0, h1], by simp [PyData.depthAll, PyData.depth, h2]⟩
theorem shaped_ints (ks : List Nat) : SeqAt.shaped (.list (ks.map fun k : Nat => PyData.int (k : Int))) = true := by
  obtain ⟨h1, h2⟩ := lay_ints ks
  simp [SeqAt.shaped, PyData.canLay0, h1, PyData.depth, h2]
def GLeft (K : PySem.W.Frag) : List Pr → Pr → Prop := fun Ps P => ∃ tags rows, Ps = [TuP K (tags.map (dS K)), TuP K (rows.map fun r => DD K (eRow r))] ∧ tags.length < 64 ∧ rows.length < 64 ∧ P = DD K (orNone (leftF tags rows))
/-- the rows that are left stand among the rows -/
def InR (rows : List (List Str × Str)) (rest : List Nat) : Prop := rest.length ≤ rows.length ∧ ∀ k ∈ rest, k < rows.length
theorem inR_filter {rows : List (List Str × Str)} {rest : List Nat} (h : InR rows rest) (p : Nat → Bool) : InR rows (rest.filter p) := ⟨Nat.le_trans (List.length_filter_le _ _) h.1, fun k hk => h.2 k (List.mem_filter.mp hk).1⟩
theorem leftStep_ok {rows : List (List Str × Str)} {st : List Str × List Nat} (h : InR rows st.2) (own : Str) : InR rows (leftStep rows st own).2 ∧ (leftStep rows st own).1.length ≤ st.1.length := by
  unfold leftStep
  split
  · exact ⟨inR_filter h _, List.length_filter_le _ _⟩
  · exact ⟨h, Nat.le_refl _⟩
theorem leftFold_ok {rows : List (List Str × Str)} : ∀ (xs : List Str) (st : List Str × List Nat), InR rows st.2 → InR rows (xs.foldl (leftStep rows) st).2 ∧ (xs.foldl (leftStep rows) st).1.length ≤ st.1.length
  | [], st, h => ⟨h, Nat.le_refl _⟩
  | x :: xs, st, h => by
    rw [List.foldl_cons]
    obtain ⟨h1, h2⟩ := leftStep_ok h x
    obtain ⟨h3, h4⟩ := leftFold_ok xs _ h1
    exact ⟨h3, Nat.le_trans h4 h2⟩
theorem leftN_ok {rows : List (List Str × Str)} {st : List Str × List Nat} (h : InR rows st.2) : ∀ n, InR rows (leftN rows n st).2 ∧ (leftN rows n st).1.length ≤ st.1.length
  | 0 => ⟨h, Nat.le_refl _⟩
  | n + 1 => by
    obtain ⟨h1, h2⟩ := leftN_ok h n
    obtain ⟨h3, h4⟩ := leftFold_ok (leftN rows n st).1.reverse _ h1
    exact ⟨h3, Nat.le_trans h4 h2⟩
section
variable {P : Program} {w : World} {K : PySem.W.Frag} {mg : Str → Option Value} {base : Heap} {B : Hp}
abbrev rP (K : PySem.W.Frag) (r : List Str × Str) : Pr := DD K (eRow r)
abbrev nP (K : PySem.W.Frag) (k : Nat) : Pr := dI K (k : Int)
theorem atI_nat {α : Type} {xs : List α} {k : Nat} (h : k < xs.length) : atI xs (k : Int) = xs[k]? := by
  unfold atI ixN
  rw [if_pos (by omega), if_pos (by omega)]
  have e : ((k : Int)).toNat = k := by omega
  rw [e] <;> rfl
theorem atI_row {rows : List (List Str × Str)} {k : Nat} (h : k < rows.length) : atI (rows.map (rP K)) (k : Int) = some (rP K (rk rows k)) := by
  rw [atI_nat (by rw [List.length_map]; exact h), List.getElem?_map]
  unfold rk
  rw [List.getD_eq_getElem?_getD, List.getElem?_eq_getElem h] <;> rfl
/-- pairs[k][0], pairs[k][1] -/
theorem ev_row0 {w : Wd} {n : Nat} {σ : L2.St} {rows : List (List Str × Str)} {k : Nat} {i j : Nat} {rv kv : V} (h : (TuP K (rows.map (rP K))).p rv B) (hk : k < rows.length) (hi : σ[i]? = some (some rv)) (hj : σ[j]? = some (some kv)) (hv : (nP K k).p kv B) :
    Ev w n n (tOp (rIxT K) (tOp (rIxT K) (tVar i) (tVar j)) (tC (.int 0))) σ B (TuP K ((rk rows k).1.map (dS K))) :=
  (ev_op ((ev_op (ev_var hi h) (ev_var hj hv) (rv_ixT (atI_row hk))).imp fun _ _ z => dd_tt (ds := [eTS (rk rows k).1, .str (rk rows k).2]) z) (ev_int (K := K)) (rv_ixT (i := 0) rfl)).imp fun _ _ z => tt_strs z
theorem ev_row1 {w : Wd} {n : Nat} {σ : L2.St} {rows : List (List Str × Str)} {k : Nat} {i j : Nat} {rv kv : V} (h : (TuP K (rows.map (rP K))).p rv B) (hk : k < rows.length) (hi : σ[i]? = some (some rv)) (hj : σ[j]? = some (some kv)) (hv : (nP K k).p kv B) :
    Ev w n n (tOp (rIxT K) (tOp (rIxT K) (tVar i) (tVar j)) (tC (.int 1))) σ B (dS K (rk rows k).2) :=
  ev_op ((ev_op (ev_var hi h) (ev_var hj hv) (rv_ixT (atI_row hk))).imp fun _ _ z => dd_tt (ds := [eTS (rk rows k).1, .str (rk rows k).2]) z) (ev_int (K := K)) (rv_ixT (i := 1) rfl)
theorem scLeft : FnScope ["_law_tags_here", "_law_pairs_so", "_law_turn", "_law_left_here", "_law_rest_so", "_law_own", "_law_k", "_law_far"] ["_law_tags_here", "_law_pairs_so"] (defScope (top 70)) := ⟨rfl, rfl, rfl, by decide +kernel, rfl, by decide +kernel, by decide +kernel⟩
theorem calLeft (T : Txt K mg) : Cal P w K mg base 1 "_law_left" ["_law_tags_here", "_law_pairs_so"] (spF (GLeft K)) := by
  obtain ⟨fd, F⟩ := T.f_law_left
  refine cal_of (k := 0) F T.g_law_left scLeft (fun Ps P ⟨_, _, e, _⟩ => by rw [e] <;> rfl) (fun _ _ _ _ _ _ us hl => match us, hl with | [_, _], _ => rfl) fun cdv A o s H E hr => ?_
  refine ⟨_, (pss_cons (ps_par (i := 3) (j := 4) (by rfl) scLeft.nd rfl rfl (by decide) rfl rfl (pa_cons (pe_callTy (kc_list (K := K) rfl) (by rfl) T.m_list (by decide +kernel) (pa_cons (pv 0) pa_nil)) (pa_cons (pe_listRg rfl (by rfl) T.m_list (prg_1 (by rfl) T.m_range (pe_callB (kc_len (K := K) rfl) (by rfl) T.m_len PySem.boot_len (pa_cons (pv 1) pa_nil)))) pa_nil)) (by rfl))
    (pss_cons (ps_for (passes_of rfl) rfl (pi_range1 (by rfl) T.m_range (pa_cons (pe_callB (kc_len (K := K) rfl) (by rfl) T.m_len PySem.boot_len (pa_cons (pv 0) pa_nil)) pa_nil)) (pg_name (i := 2) scLeft.nd rfl (by first | exact Or.inl rfl | exact Or.inr rfl)) (pss_one (ps_for (passes_of rfl) rfl (kp_list (K := K) rfl (ke_rev (K := K) rfl (pv 3))) (pg_name (i := 5) scLeft.nd rfl (by first | exact Or.inl rfl | exact Or.inr rfl)) (pss_one (ps_if (pt_cmpR op_lt (pe_callB (kc_len (K := K) rfl) (by rfl) T.m_len PySem.boot_len (pa_cons (pe_callB (cr_sortSet rfl) (by rfl) T.m_sorted (by decide +kernel) (pa_cons (pe_callTy (cr_setOf rfl) (by rfl) T.m_set (by decide +kernel) (pa_cons (pe_lc (own := [("_law_k", 6)]) (by rfl) scLeft.nd (kp_list (K := K) rfl (pv 4)) (blkOk_by (by kernel_rfl)) (fun _ _ _ _ _ => (pg_name (i := 6) scLeft.nd rfl (by first | exact Or.inl rfl | exact Or.inr rfl))) (fun _ _ _ _ _ => (pts_one (pt_cmpR (ko_in (K := K) rfl) (pv 5) (pe_ix (kx_tup (K := K) rfl) (pe_ix (kx_tup (K := K) rfl) (pv 1) (pv 6) (fun _ _ => rfl)) pe_int (fun _ _ => rfl)) (by with_unfolding_all rfl)))) (fun _ _ _ _ _ => (pe_ix (kx_tup (K := K) rfl) (pe_ix (kx_tup (K := K) rfl) (pv 1) (pv 6) (fun _ _ => rfl)) pe_int (fun _ _ => rfl)))) pa_nil)) pa_nil)) pa_nil)) pe_int (nomark _)) (pss_cons (ps_setLc (i := 4) (own := [("_law_k", 6)]) (by rfl) scLeft.nd rfl rfl (sw_true rfl rfl rfl (by decide +kernel)) (kp_list (K := K) rfl (pv 4)) (blkOk_by (by kernel_rfl)) (fun _ _ _ _ _ => (pg_name (i := 6) scLeft.nd rfl (by first | exact Or.inl rfl | exact Or.inr rfl))) (fun _ _ _ _ _ => (pts_one (pt_cmpR (ko_notIn (K := K) rfl) (pv 5) (pe_ix (kx_tup (K := K) rfl) (pe_ix (kx_tup (K := K) rfl) (pv 1) (pv 6) (fun _ _ => rfl)) pe_int (fun _ _ => rfl)) (by with_unfolding_all rfl)))) (fun _ _ _ _ _ => (pv 6)))
    (pss_one (ps_setLc (i := 3) (own := [("_law_far", 7)]) (by rfl) scLeft.nd rfl rfl (sw_true rfl rfl rfl (by decide +kernel)) (kp_list (K := K) rfl (pv 3)) (blkOk_by (by kernel_rfl)) (fun _ _ _ _ _ => (pg_name (i := 7) scLeft.nd rfl (by first | exact Or.inl rfl | exact Or.inr rfl))) (fun _ _ _ _ _ => (pts_one (pt_cmpR op_ne (pv 7) (pv 5) (nomark _)))) (fun _ _ _ _ _ => (pv 7))))) pss_nil)))))
    (pss_one (ps_ret (pe_ifExp (pt_cmpR (ko_ne (K := K) rfl hr.units) (pv 4) (pe_lst pa_nil) (nomark _)) (pe_callTy (kc_tup (K := K) rfl) (by rfl) T.m_tuple (by decide +kernel) (pa_cons (pv 4) pa_nil)) pe_non))))), ?_⟩
  intro H B vs Ps P0 hs hp ⟨tags, rows, hP, hl1, hl2, hP0⟩ D q
  subst hP hP0
  obtain ⟨tv, rv, rfl, h0, h1⟩ := two_at hp
  refine q_par (m := 0) (P1 := LoP K (tags.map (dS K))) (P2 := LoP K ((List.range rows.length).map (nP K))) (at0 hs) (ea_cons (ev_cb (ea_cons (ev_var rfl h0) ea_nil) rc_listT) (ea_cons (ev_listRg ((ev_cb (ea_cons (ev_var rfl h1) ea_nil) rc_lenT).to (by rw [List.length_map])) (by omega)) ea_nil)) fun l0 r0 B1 H1 t1 s1 hl0 hr0 => ?_
  have hR0 : InR rows (List.range rows.length) := ⟨by rw [List.length_range]; exact Nat.le_refl _, fun k hk => List.mem_range.mp hk⟩
  refine q_for (m := 0) (xs := List.range tags.length) (Y := nP K) (fun i Bs u k σ B1 => u = w0 ∧ ∃ lv rsv x2 x5, σ = [some tv, some rv, x2, some lv, some rsv, x5, none, none] ∧ (LoP K ((leftN rows i (tags, List.range rows.length)).1.map (dS K))).p lv B1 ∧ (LoP K ((leftN rows i (tags, List.range rows.length)).2.map (nP K))).p rsv B1)
    t1 (es_rng (K := K) (ea_cons ((ev_cb (ea_cons (ev_var (i := 0) rfl (Pr.up h0 s1)) ea_nil) rc_lenT).to (by rw [List.length_map])) ea_nil) (by omega)) (fun B2 s2 => ⟨rfl, l0, r0, none, none, rfl, Pr.up hl0 s2, Pr.up hr0 s2⟩) ?turn ?done
  case turn =>
    intro i p v Bs u k σ' B2 B3 H3 ex s2 s3 ⟨hu, lv, rsv, x2, x5, hσ, hlv, hrv⟩ t s4 hv
    subst hu hσ
    obtain ⟨hR, hL⟩ := leftN_ok (rows := rows) (st := (tags, List.range rows.length)) hR0 i
    have hnx : leftN rows (i + 1) (tags, List.range rows.length) = leftRound rows (leftN rows i (tags, List.range rows.length)) := rfl
    generalize leftN rows i (tags, List.range rows.length) = st at hlv hrv hR hL hnx
    have s00 : Same B B3 := ((s1.trans s2).trans s3).trans s4
    show tFor _ _ _ _ _ H3
    refine s_for (m := k) (xs := st.1.reverse) (Y := dS K) (fun j Bs u k' σ B1 => u = w0 ∧ k' = k ∧ ∃ lv rsv x5, σ = [some tv, some rv, some v, some lv, some rsv, x5, none, none] ∧ (LoP K (((st.1.reverse.take j).foldl (leftStep rows) st).1.map (dS K))).p lv B1 ∧ (LoP K (((st.1.reverse.take j).foldl (leftStep rows) st).2.map (nP K))).p rsv B1)
      t (es_list (K := K) (ev_lo ((ev_revL (ev_var (i := 3) rfl (lo_li (Pr.up hlv s4)))).to (by rw [← List.map_reverse])))) (fun B4 s5 => ⟨rfl, rfl, lv, rsv, x5, rfl, Pr.up hlv (s4.trans s5), Pr.up hrv (s4.trans s5)⟩) ?turn2 ?done2
    case done2 =>
      intro Bs2 u k' σ2 B4 H4 s5 s6 t4 ⟨hu, hk', lv, rsv, x5, hσ, hlv, hrv⟩
      subst hu hk' hσ
      rw [List.take_length] at hlv hrv
      refine ⟨_, _, B4, t4, ((s3.trans s4).trans (s5.trans s6)), rfl, lv, rsv, some v, x5, rfl, ?_, ?_⟩
      · rw [hnx]
        exact hlv
      · rw [hnx]
        exact hrv
    case turn2 =>
      intro j own ov Bs2 u k' σ2 B4 B5 H5 ey s5 s6 ⟨hu, hk', lv, rsv, x5, hσ, hlv, hrv⟩ t5 s7 hov
      subst hu hk' hσ
      obtain ⟨hR2, hL2⟩ := leftFold_ok (st.1.reverse.take j) st hR
      have hny := foldl_take (leftStep rows) st.1.reverse st ey
      generalize (st.1.reverse.take j).foldl (leftStep rows) st = sj at hlv hrv hR2 hL2 hny
      have s55 : Same B B5 := s00.trans ((s5.trans s6).trans s7)
      have hlv2 := Pr.up hlv s7
      have hrv2 := Pr.up hrv s7
      have hp1 := Pr.up h1 s55
      show tIfS _ _ _ _ _ H5
      have len2 : sj.2.length < 64 := by have z := hR2.1; omega
      refine s_when (m := k') (b := decide ((setOf (lKinds rows sj.2 own)).length < 2)) t5 (EvT.z (n := k') (m := k' + sj.2.length * 0) (et_test (K := K) ((ev_op (ev_cb (ea_cons (ev_lo (ev_cb (ea_cons (ev_cb (ea_cons (ev_lo ((ev_lc (K := K) (c := 0) (fun k => decide (own ∈ (rk rows k).1)) (fun k => dS K (rk rows k).2) (es_list (Y := nP K) (ev_var rfl (lo_li hrv2))).s (by omega) ?tk).to (by
        show _ = LoP K ((lKinds rows sj.2 own).map (dS K))
        unfold lKinds
        rw [List.map_map] <;> rfl))) ea_nil) (rc_setL ?len1)) ea_nil) (rc_sortTx ?len3))) ea_nil) rc_lenL) (ev_int (K := K)) (rv_I0b (K := K))).to ?cmp))) (fun hb B6 H6 t6 s8 => ?_) fun hb B6 H6 t6 s8 => ?_
      case tk =>
        intro k kv B6 l hk s8 hkv
        exact ⟨_, tg_name, rfl, et_test (ev_op (ev_var rfl (Pr.up hov s8)) (ev_row0 (Pr.up hp1 s8) (hR2.2 k hk) rfl rfl hkv) rv_inT), fun _ => ev_row1 (Pr.up hp1 s8) (hR2.2 k hk) rfl rfl hkv⟩
      case len1 =>
        unfold lKinds
        rw [List.length_map]
        have z := List.length_filter_le (fun k => decide (own ∈ (rk rows k).1)) sj.2
        omega
      case len3 =>
        unfold lKinds
        rw [List.length_map]
        have z := List.length_filter_le (fun k => decide (own ∈ (rk rows k).1)) sj.2
        omega
      case cmp =>
        rw [List.length_map]
        exact congrArg (dB K) (decide_eq_decide.mpr (by omega))
      · have hst : leftStep rows sj own = (sj.1.filter fun x => !decide (x = own), sj.2.filter fun k => !decide (own ∈ (rk rows k).1)) := by
          unfold leftStep
          rw [if_pos (by simpa using hb)]
        have hp2 := Pr.up hp1 s8
        have hlen1 : sj.1.length < 64 := by
          have z : st.1.length ≤ tags.length := hL
          omega
        refine q_asg (m := k') (P := LoP K ((sj.2.filter fun k => !decide (own ∈ (rk rows k).1)).map (nP K))) t6 (Ev.z (n := k') (m := k' + sj.2.length * 0) (ev_lc (K := K) (c := 0) (fun k => !decide (own ∈ (rk rows k).1)) (nP K) (es_list (Y := nP K) (ev_var rfl (lo_li (Pr.up hrv2 s8)))).s (by omega) ?tk2)) fun nr B7 H7 t7 s9 hnr => ?_
        case tk2 =>
          intro k kv B7 l hk s9 hkv
          exact ⟨_, tg_name, rfl, et_test (ev_op (ev_var rfl (Pr.up hov (s8.trans s9))) (ev_row0 (Pr.up hp2 s9) (hR2.2 k hk) rfl rfl hkv) (rv_inT (neg := true))), fun _ => ev_var rfl hkv⟩
        refine s_asg (m := k') (P := LoP K ((sj.1.filter fun x => !decide (x = own)).map (dS K))) t7 (Ev.z (n := k') (m := k' + sj.1.length * 0) (ev_lc (K := K) (c := 0) (fun x => !decide (x = own)) (dS K) (es_list (Y := dS K) (ev_var rfl (lo_li (Pr.up hlv2 (s8.trans s9))))).s (by omega) ?tk3)) fun nl B8 H8 t8 s10 hnl => ⟨_, _, B8, t8, ((s6.trans s7).trans (s8.trans s9)).trans s10, rfl, rfl, nl, nr, some ov, rfl, ?_, ?_⟩
        case tk3 =>
          intro x xv B8 l hx s10 hxv
          exact ⟨_, tg_name, rfl, et_test (ev_op (ev_var rfl hxv) (ev_var rfl (Pr.up hov ((s8.trans s9).trans s10))) rv_neS), fun _ => ev_var rfl hxv⟩
        · rw [hny, hst]
          exact hnl
        · rw [hny, hst]
          exact Pr.up hnr s10
      · have hst : leftStep rows sj own = sj := by
          unfold leftStep
          rw [if_neg (by simpa using hb)]
        refine ⟨_, _, B6, t6, (s6.trans s7).trans s8, rfl, rfl, lv, rsv, some ov, rfl, ?_, ?_⟩
        · rw [hny, hst]
          exact Pr.up hlv2 s8
        · rw [hny, hst]
          exact Pr.up hrv2 s8
  case done =>
    intro Bs u k σ' B1 H1 s2 s3 t ⟨hu, lv, rsv, x2, x5, hσ, hlv, hrv⟩
    subst hu hσ
    rw [List.length_range] at hlv hrv
    have hrv' : (LoP K ((leftF tags rows).map (nP K))).p rsv B1 := hrv
    obtain ⟨hR, hL⟩ := leftN_ok (rows := rows) (st := (tags, List.range rows.length)) hR0 tags.length
    have hR' : InR rows (leftF tags rows) := hR
    generalize leftF tags rows = res at hrv' hR' q
    have em : res.map (nP K) = (res.map fun k : Nat => PyData.int (k : Int)).map (DD K) := by
      rw [List.map_map] <;> rfl
    refine s_ret (P := DD K (orNone res)) (m := k) t (ev_if (m := k) (b := !res.isEmpty) (et_test ((ev_op ((ev_lo (ev_var rfl hrv')).imp fun _ _ z => ll_dd (ds := res.map fun k : Nat => PyData.int (k : Int)) (by rw [← em]; exact z)) ((ev_lst (K := K) ea_nil).imp fun _ _ z => ll_dd (ds := []) z) (rv_neD (K := K) (shaped_ints res) shaped_nil)).to (by rw [eqv_nil, List.isEmpty_map]))) (fun hb => ?_) fun hb => ?_) fun v B' H' a s hv => q _ v B' H' a hv
    · have e : orNone res = eInts res := by
        unfold orNone
        rw [if_neg (by intro z; rw [z] at hb; cases hb)]
      rw [e]
      exact (ev_cb (ea_cons (ev_lo (ev_var rfl hrv')) ea_nil) rc_tupL).imp fun _ _ z => tt_dd (by rw [← em]; exact z)
    · have e : orNone res = .none := by
        unfold orNone
        rw [if_pos (by cases res with
          | nil => rfl
          | cons _ _ => cases hb)]
      rw [e]
      exact ev_non
end
end Pk


set_option Elab.async false
set_option linter.all false
set_option maxRecDepth 100000
set_option maxHeartbeats 4000000
/-! PkF12: _law_closed. -/
namespace Pk
open PySem PySem.Spec PyProof.Rows L2 PkH PySem.W
def inR (rows : List (List Str × Str)) (n : Int) : Bool := decide (0 ≤ n) && decide (n < (rows.length : Nat))
def downs (ns : List Int) : List Nat := (List.range (ns.length - 1)).filter fun k => decide (ns.getD (k + 1) 0 ≤ ns.getD k 0)
def rowsAt (rows : List (List Str × Str)) (ns : List Int) : List (List Str × Str) := ns.map fun n => rk rows n.toNat
def kindsOf (some : List (List Str × Str)) (tag : Str) : List Str := (some.filter fun r => decide (tag ∈ r.1)).map (·.2)
def nearOf (some : List (List Str × Str)) : List Str := some.flatMap (·.1)
def closedF (rows : List (List Str × Str)) (ns : List Int) : Bool :=
  !ns.isEmpty && (ns.all (inR rows) && ((downs ns).isEmpty && (nearOf (rowsAt rows ns)).all fun t => !decide ((gath (kindsOf (rowsAt rows ns) t)).length < 2)))
def GClosed (K : PySem.W.Frag) : List Pr → Pr → Prop := fun Ps P => ∃ rows d, Ps = [TuP K (rows.map fun r => DD K (eRow r)), DD K d] ∧ rows.length < 64 ∧ (∀ r ∈ rows, r.1.length ≤ 64) ∧
  ((isDict d = false ∧ (∀ xs, d ≠ .tuple xs) ∧ P = dB K false) ∨ ((∃ b, d = .tuple [.bool b]) ∧ P = dB K false) ∨ ∃ ns : List Int, d = .tuple (ns.map .int) ∧ ns.length ≤ 64 ∧ P = dB K (closedF rows ns))
theorem lay_intsI : ∀ (ks : List Int), PyData.canLayAll0 (ks.map PyData.int) = true ∧ PyData.depthAll (ks.map PyData.int) = 0
  | [] => ⟨rfl, rfl⟩
  | k :: ks => by
    obtain ⟨h1, h2⟩ := lay_intsI ks
    rw [List.map_cons]
    exact ⟨by simp [PyData.canLayAll0, PyData.canLay0, h1], by simp [PyData.depthAll, PyData.depth, h2]⟩
theorem shaped_intsL (ks : List Int) : SeqAt.shaped (.list (ks.map PyData.int)) = true := by
  obtain ⟨h1, h2⟩ := lay_intsI ks
  simp [SeqAt.shaped, PyData.canLay0, h1, PyData.depth, h2]
theorem shaped_intsT (ks : List Int) : SeqAt.shaped (.tuple (ks.map PyData.int)) = true := by
  obtain ⟨h1, h2⟩ := lay_intsI ks
  simp [SeqAt.shaped, PyData.canLay0, h1, PyData.depth, h2]
theorem shaped_nilT : SeqAt.shaped (.tuple []) = true := by simp [SeqAt.shaped, PyData.canLay0, PyData.canLayAll0, PyData.depth, PyData.depthAll]
theorem shaped_b (b : Bool) : SeqAt.shaped (.list [.bool b]) = true := by simp [SeqAt.shaped, PyData.canLay0, PyData.canLayAll0, PyData.depth, PyData.depthAll]
theorem shaped_bT (b : Bool) : SeqAt.shaped (.tuple [.bool b]) = true := by simp [SeqAt.shaped, PyData.canLay0, PyData.canLayAll0, PyData.depth, PyData.depthAll]
theorem eqv_nilT (ds : List PyData) : PyData.eqv (.tuple ds) (.tuple []) = ds.isEmpty := by
  cases ds <;> rfl
theorem filter_not_empty {α : Type} (p : α → Bool) : ∀ xs : List α, (xs.filter fun x => !p x).isEmpty = xs.all p
  | [] => rfl
  | x :: xs => by
    rw [List.filter_cons, List.all_cons]
    cases h : p x
    · simp
    · simp [filter_not_empty p xs]
section
variable {P : Program} {w : World} {K : PySem.W.Frag} {mg : Str → Option Value} {base : Heap} {B : Hp}
theorem EvW.z {α : Type} {n m l k : Nat} {wi : TI} {σ : L2.St} {xs : List α} {Y : α → Pr} (h : EvW w0 n m wi σ B xs Y) : EvW w0 l k wi σ B xs Y := fun B1 s1 H c R q => h B1 s1 H ⟨c.sub, c.cl, True.intro⟩ R fun J B' H' g c' w => q J B' H' g ⟨c'.sub, c'.cl, True.intro⟩ w
theorem ev_isi {w : Wd} {n : Nat} {σ : L2.St} {i : Nat} {v : V} {d : PyData} {T : String} (hi : σ[i]? = some (some v)) (h : (DD K d).p v B) (hT : (kitB (tyName d) T).isSome = true) : Ev w n n (tCB (rIsi K) (tCons (tVar i) (tCons (tC (.ty T)) tNil))) σ B (dB K (isTy d T)) :=
  ev_cb (ea_cons (ev_var hi h) (ea_cons (ev_c (P := VV (.ty T)) rfl) ea_nil)) (rc_isi hT)
theorem scClosed : FnScope ["_law_pairs_so", "_law_matter", "_law_tag", "_law_some", "_law_near", "_law_lot_so", "_law_kind_so", "_law_own", "_law_k"] ["_law_pairs_so", "_law_matter"] (defScope (top 71)) := ⟨rfl, rfl, rfl, by decide +kernel, rfl, by decide +kernel, by decide +kernel⟩
theorem atI_rowI {rows : List (List Str × Str)} {n : Int} (h : inR rows n = true) : atI (rows.map (rP K)) n = some (rP K (rk rows n.toNat)) := by
  unfold inR at h
  rw [Bool.and_eq_true] at h
  have h1 : 0 ≤ n := by simpa using h.1
  have h2 : n < (rows.length : Nat) := by simpa using h.2
  have e : ((n.toNat : Nat) : Int) = n := by omega
  have q := atI_row (K := K) (rows := rows) (k := n.toNat) (by omega)
  rw [e] at q
  exact q
theorem atI_int {ns : List Int} {k : Nat} (h : k < ns.length) : atI (ns.map (dI K)) (k : Int) = some (dI K (ns.getD k 0)) := by
  rw [atI_nat (by rw [List.length_map]; exact h), List.getElem?_map, List.getD_eq_getElem?_getD, List.getElem?_eq_getElem h] <;> rfl
theorem calClosed (T : Txt K mg) : Cal P w K mg base 1 "_law_closed" ["_law_pairs_so", "_law_matter"] (spF (GClosed K)) := by
  obtain ⟨fd, F⟩ := T.f_law_closed
  refine cal_of (k := 0) F T.g_law_closed scClosed (fun Ps P ⟨_, _, e, _⟩ => by rw [e] <;> rfl) (fun _ _ _ _ _ _ us hl => match us, hl with | [_, _], _ => rfl) fun cdv A o s H E hr => ?_
  refine ⟨_, (pss_cons (ps_if (PW.pt (pw_or (pt_not (pt_val (pe_callB (kc_isi (K := K) rfl) (by rfl) T.m_isinstance (by decide +kernel) (pa_cons (pv 1) (pa_cons (pe_bltn (v := .ty "tuple") (by rfl) T.m_tuple (by decide +kernel) rfl) pa_nil))))) (pw_or1 (pt_cmpR (ko_eq (K := K) rfl hr.units) (pv 1) (pe_tup pa_nil) (nomark _))))) (pss_one (ps_ret pe_bl)) pss_nil)
    (pss_cons (ps_if (pt_cmpR (ko_ne (K := K) rfl hr.units) (pe_lc (own := [("_law_own", 7)]) (by rfl) scClosed.nd (kp_tup (K := K) rfl (pv 1)) (blkOk_by (by kernel_rfl)) (fun _ _ _ _ _ => (pg_name (i := 7) scClosed.nd rfl (by first | exact Or.inl rfl | exact Or.inr rfl))) (fun _ _ _ _ _ => (pts_one (PW.pt (pw_or (pt_not (pt_val (pe_callB (kc_isi (K := K) rfl) (by rfl) T.m_isinstance (by decide +kernel) (pa_cons (pv 7) (pa_cons (pe_bltn (v := .ty "int") (by rfl) T.m_int (by decide +kernel) rfl) pa_nil))))) (pw_or (pt_val (pe_callB (kc_isi (K := K) rfl) (by rfl) T.m_isinstance (by decide +kernel) (pa_cons (pv 7) (pa_cons (pe_bltn (v := .ty "bool") (by rfl) T.m_bool (by decide +kernel) rfl) pa_nil)))) (pw_or1 (pt_not (pt_chain op_le op_lt pe_int (pv 7) (pe_callB (kc_len (K := K) rfl) (by rfl) T.m_len PySem.boot_len (pa_cons (pv 0) pa_nil)))))))))) (fun _ _ _ _ _ => (pv 7))) (pe_lst pa_nil) (nomark _)) (pss_one (ps_ret pe_bl)) pss_nil)
    (pss_cons (ps_if (pt_cmpR (ko_ne (K := K) rfl hr.units) (pe_lc (own := [("_law_k", 8)]) (by rfl) scClosed.nd (pi_range1 (by rfl) T.m_range (pa_cons (pe_op op_sub (pe_callB (kc_len (K := K) rfl) (by rfl) T.m_len PySem.boot_len (pa_cons (pv 1) pa_nil)) pe_int) pa_nil)) (blkOk_by (by kernel_rfl)) (fun _ _ _ _ _ => (pg_name (i := 8) scClosed.nd rfl (by first | exact Or.inl rfl | exact Or.inr rfl))) (fun _ _ _ _ _ => (pts_one (pt_cmpR op_ge (pe_ix (kx_tup (K := K) rfl) (pv 1) (pv 8) (fun _ _ => rfl)) (pe_ix (kx_tup (K := K) rfl) (pv 1) (pe_op op_add (pv 8) pe_int) (fun _ _ => rfl)) (nomark _)))) (fun _ _ _ _ _ => (pv 8))) (pe_lst pa_nil) (nomark _)) (pss_one (ps_ret pe_bl)) pss_nil)
    (pss_cons (ps_par (i := 3) (j := 4) (by rfl) scClosed.nd rfl rfl (by decide) rfl rfl (pa_cons (pe_lc (own := [("_law_own", 7)]) (by rfl) scClosed.nd (kp_tup (K := K) rfl (pv 1)) (blkOk_by (by kernel_rfl)) (fun _ _ _ _ _ => (pg_name (i := 7) scClosed.nd rfl (by first | exact Or.inl rfl | exact Or.inr rfl))) (fun _ _ _ _ _ => pts_nil) (fun _ _ _ _ _ => (pe_ix (kx_tup (K := K) rfl) (pv 0) (pv 7) (fun _ _ => rfl)))) (pa_cons (pe_lst pa_nil) pa_nil)) (by rfl))
    (pss_cons (ps_for (passes_of rfl) rfl (kp_list (K := K) rfl (pv 3)) (kg_tup (K := K) (n := 2) rfl rfl (pgs_cons (pg_name (i := 5) scClosed.nd rfl (by first | exact Or.inl rfl | exact Or.inr rfl)) (pgs_cons (pg_name (i := 6) scClosed.nd rfl (by first | exact Or.inl rfl | exact Or.inr rfl)) pgs_nil))) (pss_one (ps_set (i := 4) scClosed.nd rfl (by first | exact Or.inl rfl | exact Or.inr rfl) (pe_op op_cat (pv 4) (pe_callTy (kc_list (K := K) rfl) (by rfl) T.m_list (by decide +kernel) (pa_cons (pv 5) pa_nil))))))
    (pss_cons (ps_for (passes_of rfl) rfl (kp_list (K := K) rfl (pv 4)) (pg_name (i := 2) scClosed.nd rfl (by first | exact Or.inl rfl | exact Or.inr rfl)) (pss_one (ps_if (pt_cmpR op_lt (pe_callB cr_lenSet (by rfl) T.m_len PySem.boot_len (pa_cons (pe_callTy (cr_setOf rfl) (by rfl) T.m_set (by decide +kernel) (pa_cons (pe_lc (own := [("_law_lot_so", 5), ("_law_kind_so", 6)]) (by rfl) scClosed.nd (kp_list (K := K) rfl (pv 3)) (blkOk_by (by kernel_rfl)) (fun _ _ _ _ _ => (kg_tup (K := K) (n := 2) rfl rfl (pgs_cons (pg_name (i := 5) scClosed.nd rfl (by first | exact Or.inl rfl | exact Or.inr rfl)) (pgs_cons (pg_name (i := 6) scClosed.nd rfl (by first | exact Or.inl rfl | exact Or.inr rfl)) pgs_nil)))) (fun _ _ _ _ _ => (pts_one (pt_cmpR (ko_in (K := K) rfl) (pv 2) (pv 5) (by with_unfolding_all rfl)))) (fun _ _ _ _ _ => (pv 6))) pa_nil)) pa_nil)) pe_int (nomark _)) (pss_one (ps_ret pe_bl)) pss_nil)))
    (pss_one (ps_ret pe_bl)))))))), ?_⟩
  intro H B vs Ps P0 hs hp ⟨rows, d, hP, hl, hl2, hG⟩ D q
  subst hP
  obtain ⟨rv, dv, rfl, h0, h1⟩ := two_at hp
  rcases hG with ⟨hd, hnt, rfl⟩ | ⟨⟨b, rfl⟩, rfl⟩ | ⟨ns, rfl, hn, rfl⟩
  · have k1 : (kitB (tyName d) "tuple").isSome = true := by cases d <;> first | rfl | (simp [isDict] at hd)
    have k2 : isTy d "tuple" = false := by
      cases d with
      | tuple xs => exact absurd rfl (hnt xs)
      | dict _ => simp [isDict] at hd
      | _ => rfl
    refine q_when (m := 0) (b := true) (at0 hs) ((et_or (a := true) (b := false) ((et_not (et_test (ev_isi rfl h1 k1))).to (by rw [k2] <;> rfl)) fun z => by cases z).to rfl) (fun _ B' H' t' s' => ?_) fun z => by cases z
    exact s_ret (m := 0) t' (ev_bl (K := K)) fun v B' H' a s hv => q _ v B' H' a hv
  · refine q_no (m := 0) (at0 hs) ((et_or (a := false) (b := false) ((et_not (et_test (ev_isi rfl h1 rfl))).to rfl) fun _ => (et_test (K := K) ((ev_op (ev_var rfl h1) ((ev_tup (K := K) ea_nil).imp fun _ _ z => tt_dd (ds := []) z) (rv_eqD (K := K) (shaped_bT b) shaped_nilT)).to (congrArg (dB K) (eqv_nilT _))))).to rfl) fun B1 H1 t1 s1 => ?_
    refine q_when (m := 0) (b := true) t1 (EvT.z (n := 0) (m := 0 + [b].length * 0) (et_test ((ev_op (ev_lod (ds := ([b].filter fun _ => true).map PyData.bool) ((ev_lc (K := K) (c := 0) (xs := [b]) (fun _ => true) (fun b => dB K b) (es_tup (Y := fun b => dB K b) (ev_var rfl (dd_tt (dd_up h1 s1)))).s (by simp) ?turn).to (by rw [List.map_map] <;> rfl))) ((ev_lst (K := K) ea_nil).imp fun _ _ z => ll_dd (ds := []) z) (rv_neD (K := K) (shaped_b b) shaped_nil)).to (by rw [eqv_nil] <;> rfl)))) (fun _ B' H' t' s' => ?_) fun z => by cases z
    case turn =>
      intro x v B2 l hx s2 hv
      exact ⟨_, tg_name, rfl, (et_or (a := false) (b := true) ((et_not (et_test (ev_isi (d := .bool x) rfl hv rfl))).to rfl) fun _ => (et_or (a := true) (b := false) ((et_test (ev_isi (d := .bool x) rfl hv rfl)).to rfl) fun z => by cases z).to rfl).to rfl, fun _ => ev_var rfl hv⟩
    exact s_ret (m := 0) t' (ev_bl (K := K)) fun v B' H' a s hv => q _ v B' H' a hv
  · have hnsT : ∀ B1, Same B B1 → (TuP K (ns.map (dI K))).p dv B1 := fun B1 s1 => tt_map (f := PyData.int) (dd_up h1 s1)
    have k1 : kitB "int" "int" = some true := by decide +kernel
    have k2 : kitB "int" "bool" = some false := by decide +kernel
    have i1 : ∀ n : Int, isTy (.int n) "int" = true := fun n => by
      show (kitB "int" "int").getD false = true
      rw [k1] <;> rfl
    have i2 : ∀ n : Int, isTy (.int n) "bool" = false := fun n => by
      show (kitB "int" "bool").getD false = false
      rw [k2] <;> rfl
    have j1 : ∀ n : Int, (kitB (tyName (.int n)) "int").isSome = true := fun n => by
      show (kitB "int" "int").isSome = true
      rw [k1] <;> rfl
    have j2 : ∀ n : Int, (kitB (tyName (.int n)) "bool").isSome = true := fun n => by
      show (kitB "int" "bool").isSome = true
      rw [k2] <;> rfl
    refine q_when (m := 0) (b := ns.isEmpty) (at0 hs) ((et_or (a := false) (b := ns.isEmpty) ((et_not (et_test (ev_isi rfl h1 rfl))).to rfl) fun _ => (et_test (K := K) ((ev_op (ev_var rfl h1) ((ev_tup (K := K) ea_nil).imp fun _ _ z => tt_dd (ds := []) z) (rv_eqD (K := K) (shaped_intsT ns) shaped_nilT)).to (by rw [eqv_nilT, List.isEmpty_map])))).to (by simp)) (fun hb B1 H1 t1 s1 => ?_) fun hb B1 H1 t1 s1 => ?_
    · refine s_ret (m := 0) (P := dB K (closedF rows ns)) t1 ?_ fun v B' H' a s hv => q _ v B' H' a hv
      have e : closedF rows ns = false := by
        unfold closedF
        rw [hb] <;> rfl
      rw [e]
      exact ev_bl
    have hns := hnsT B1 s1
    refine q_when (m := 0) (b := !ns.all (inR rows)) t1 (EvT.z (n := 0) (m := 0 + ns.length * 0) (et_test ((ev_op (ev_lod (ds := (ns.filter fun n => !inR rows n).map PyData.int) ((ev_lc (K := K) (c := 0) (fun n => !inR rows n) (fun n => dI K n) (es_tup (Y := fun n => dI K n) (ev_var rfl hns)).s (by omega) ?turn1).to (by rw [List.map_map] <;> rfl))) ((ev_lst (K := K) ea_nil).imp fun _ _ z => ll_dd (ds := []) z) (rv_neD (K := K) (shaped_intsL _) shaped_nil)).to (by rw [eqv_nil, List.isEmpty_map, filter_not_empty])))) (fun hb2 B2 H2 t2 s2 => ?_) fun hb2 B2 H2 t2 s2 => ?_
    case turn1 =>
      intro x v B2 l hx s2 hv
      refine ⟨_, tg_name, rfl, (et_or (a := false) (b := !inR rows x) ((et_not (et_test (ev_isi (d := .int x) rfl hv (j1 x)))).to (by rw [i1] <;> rfl)) fun _ => (et_or (a := false) (b := !inR rows x) ((et_test (ev_isi (d := .int x) rfl hv (j2 x))).to (i2 x)) fun _ => et_not (et_test (ev_chain (K := K) (P2 := dI K x) (P3 := dI K (rows.length : Nat)) (b := decide (0 ≤ x)) (b' := decide (x < (rows.length : Nat))) (ev_int (K := K)) (ev_var rfl hv) (rv_I0b (g := fun i j => decide (i ≤ j))) (fun _ => (ev_cb (ea_cons (ev_var rfl (Pr.up h0 (s1.trans s2))) ea_nil) rc_lenT).to (by rw [List.length_map])) fun _ => rv_I0b (g := fun i j => decide (i < j))))).to (by simp)).to (by simp), fun _ => ev_var rfl hv⟩
    · refine s_ret (m := 0) (P := dB K (closedF rows ns)) t2 ?_ fun v B' H' a s hv => q _ v B' H' a hv
      have e : closedF rows ns = false := by
        unfold closedF
        rw [show ns.all (inR rows) = false by simpa using hb2]
        simp
      rw [e]
      exact ev_bl
    have hall : ns.all (inR rows) = true := by simpa using hb2
    have hlen : 0 < ns.length := List.length_pos_iff.mpr (by intro z; rw [z] at hb; cases hb)
    have hns2 := hnsT B2 (s1.trans s2)
    refine q_when (m := 0) (b := !(downs ns).isEmpty) t2 (EvT.z (n := 0) (m := 0 + (List.range (ns.length - 1)).length * 0) (et_test ((ev_op (ev_lod (ds := ((downs ns).map fun k : Nat => (k : Int)).map PyData.int) ((ev_lc (K := K) (c := 0) (xs := List.range (ns.length - 1)) (fun k => decide (ns.getD (k + 1) 0 ≤ ns.getD k 0)) (nP K)
      (es_rng (K := K) (ea_cons ((ev_op (ev_cb (ea_cons (ev_var rfl hns2) ea_nil) rc_lenT) (ev_int (K := K)) rv_I0i).to (by rw [List.length_map]; exact congrArg (dI K) (by omega))) ea_nil) (by omega)).s (by rw [List.length_range]; omega) ?turn2).to (by rw [List.map_map, List.map_map] <;> rfl))) ((ev_lst (K := K) ea_nil).imp fun _ _ z => ll_dd (ds := []) z) (rv_neD (K := K) (shaped_intsL _) shaped_nil)).to (by rw [eqv_nil, List.isEmpty_map, List.isEmpty_map])))) (fun hb3 B3 H3 t3 s3 => ?_) fun hb3 B3 H3 t3 s3 => ?_
    case turn2 =>
      intro k kv B3 l hk s3 hkv
      have hk' := List.mem_range.mp hk
      have hns3 := Pr.up hns2 s3
      have e1 : ((k : Int) + 1) = ((k + 1 : Nat) : Int) := by omega
      exact ⟨_, tg_name, rfl, et_test ((ev_op (ev_op (ev_var rfl hns3) (ev_var rfl hkv) (rv_ixT (atI_int (by omega)))) (ev_op (ev_var rfl hns3) ((ev_op (ev_var rfl hkv) (ev_int (K := K)) rv_I0i).to (by rw [e1])) (rv_ixT (atI_int (k := k + 1) (by omega)))) (rv_I0b (g := fun i j => decide (j ≤ i))))), fun _ => ev_var rfl hkv⟩
    · refine s_ret (m := 0) (P := dB K (closedF rows ns)) t3 ?_ fun v B' H' a s hv => q _ v B' H' a hv
      have e : closedF rows ns = false := by
        unfold closedF
        rw [hall, show (downs ns).isEmpty = false by simpa using hb3]
        simp
      rw [e]
      exact ev_bl
    have hdn : (downs ns).isEmpty = true := by simpa using hb3
    have hclosed : closedF rows ns = (nearOf (rowsAt rows ns)).all fun t => !decide ((gath (kindsOf (rowsAt rows ns) t)).length < 2) := by
      unfold closedF
      rw [hall, hdn, show ns.isEmpty = false from hb] <;> rfl
    have hlen2 : (rowsAt rows ns).length ≤ 64 := by
      unfold rowsAt
      rw [List.length_map]
      exact hn
    have hrl : ∀ r ∈ rowsAt rows ns, r.1.length ≤ 64 := fun r hr => by
      obtain ⟨n, hn, rfl⟩ := List.mem_map.mp hr
      have hin := List.all_eq_true.mp hall n hn
      unfold inR at hin
      rw [Bool.and_eq_true] at hin
      have g1 : 0 ≤ n := by simpa using hin.1
      have g2 : n < (rows.length : Nat) := by simpa using hin.2
      refine hl2 _ ?_
      unfold rk
      rw [List.getD_eq_getElem?_getD, List.getElem?_eq_getElem (by omega)]
      exact List.getElem_mem _
    have h03 := Pr.up h0 ((s1.trans s2).trans s3)
    have hns3 := hnsT B3 ((s1.trans s2).trans s3)
    refine q_par (m := 0 + ns.length * 0) (P1 := LoP K ((rowsAt rows ns).map (rP K))) (P2 := LoP K []) t3 (ea_cons ((ev_lc1 (K := K) (c := 0) (xs := ns) (fun n => rP K (rk rows n.toNat)) (es_tup (Y := fun n => dI K n) (ev_var rfl hns3)).s (by omega) ?turn3).to (by unfold rowsAt; rw [List.map_map] <;> rfl)) (ea_cons (ev_lst' (K := K) ea_nil) ea_nil)) fun sv nv B4 H4 t4 s4 hsv hnv => ?_
    case turn3 =>
      intro n v B4 l hn4 s4 hv
      exact ⟨_, tg_name, rfl, ev_op (ev_var rfl (Pr.up h03 s4)) (ev_var rfl hv) (rv_ixT (atI_rowI (List.all_eq_true.mp hall n hn4)))⟩
    generalize rowsAt rows ns = some0 at hclosed hlen2 hrl hsv
    have hnear : ∀ j, (nearOf (some0.take j)).length ≤ 4096 := fun j => by
      refine Nat.le_trans (flatMap_le (fun r : List Str × Str => r.1) 64 (some0.take j) fun r hr => hrl r (List.mem_of_mem_take hr)) ?_
      rw [List.length_take]
      have z : min j some0.length ≤ 64 := by omega
      exact Nat.le_trans (Nat.mul_le_mul_right 64 z) (by decide)
    refine q_for (m := 0) (xs := some0) (Y := rP K) (fun j Bs u k σ B1 => u = w0 ∧ ∃ nv x5 x6, σ = [some rv, some dv, none, some sv, some nv, x5, x6, none, none] ∧ (LoP K ((nearOf (some0.take j)).map (dS K))).p nv B1) t4 (EvW.z (n := 0) (m := 0) (es_list (K := K) (ev_var (i := 3) rfl (lo_li hsv)))) (fun B5 s5 => ⟨rfl, nv, none, none, rfl, Pr.up hnv s5⟩) ?turn4 ?done4
    case turn4 =>
      intro j r v Bs u k σ' B5 B6 H6 ex s5 s6 ⟨hu, nv, x5, x6, hσ, hnv⟩ t6 s7 hv
      subst hu hσ
      obtain ⟨pa, v1, v2, rfl, hT, e1, e2⟩ := two_row hv
      refine tg_two hT H6 _ t6.c.sub ?_
      have hnx : nearOf (some0.take (j + 1)) = nearOf (some0.take j) ++ r.1 := by
        unfold nearOf
        rw [take_next ex, List.flatMap_append, List.flatMap_singleton]
      refine s_asg (m := k) (P := LoP K ((nearOf (some0.take (j + 1))).map (dS K))) t6 ?_ fun nv' B7 H7 t7 s8 hnv' => ⟨_, _, B7, t7, (s6.trans s7).trans s8, rfl, nv', some v1, some v2, rfl, hnv'⟩
      rw [hnx, List.map_append]
      refine ev_op (ev_var rfl (Pr.up hnv s7)) (ev_cb (ea_cons (ev_var rfl (tt_strs e1)) ea_nil) rc_listT) (rv_cat ?_)
      have z1 := hnear j
      have z2 := hrl r (List.mem_of_getElem? ex)
      rw [List.length_map, List.length_map]
      omega
    case done4 =>
      intro Bs u k σ' B5 H5 s5 s6 t5 ⟨hu, nv, x5, x6, hσ, hnv⟩
      subst hu hσ
      rw [List.take_length] at hnv
      have s56 := s5.trans s6
      refine q_for (m := k) (xs := nearOf some0) (Y := dS K) (fun j Bs u k' σ B1 => u = w0 ∧ ∃ x2, σ = [some rv, some dv, x2, some sv, some nv, x5, x6, none, none] ∧ ((nearOf some0).take j).all (fun t => !decide ((gath (kindsOf some0 t)).length < 2)) = true) t5 (es_list (K := K) (ev_var (i := 4) rfl (lo_li hnv))) (fun B6 s7 => ⟨rfl, none, rfl, rfl⟩) ?turn5 ?done5
      case turn5 =>
        intro j tag tv Bs2 u k' σ2 B6 B7 H7 ey s7 s8 ⟨hu, x2, hσ, hgood⟩ t7 s9 htv
        subst hu hσ
        have htag := List.mem_of_getElem? ey
        have hsv2 := Pr.up hsv (s56.trans ((s7.trans s8).trans s9))
        have hkl : (kindsOf some0 tag).length ≤ 1000 := by
          unfold kindsOf
          rw [List.length_map]
          have z := List.length_filter_le (fun r : List Str × Str => decide (tag ∈ r.1)) some0
          omega
        show tIfS _ _ _ _ _ H7
        refine s_when (m := k') (b := decide ((gath (kindsOf some0 tag)).length < 2)) t7 (EvT.z (n := k') (m := k' + some0.length * 0) (et_test (K := K) ((ev_op (ev_cb (ea_cons (ev_cb (ea_cons (ev_lo ((ev_lc (K := K) (c := 0) (fun r : List Str × Str => decide (tag ∈ r.1)) (fun r : List Str × Str => dS K r.2) (es_list (Y := rP K) (ev_var rfl (lo_li hsv2))).s (by omega) ?turn6).to (by
          unfold kindsOf
          rw [List.map_map] <;> rfl))) ea_nil) (rc_setL hkl)) ea_nil) (rc_lenTx hkl)) (ev_int (K := K)) (rv_I0b (K := K))).to (congrArg (dB K) (decide_eq_decide.mpr (by omega)))))) (fun hb B8 H8 t8 s10 => ?_) fun hb B8 H8 t8 s10 => ?_
        case turn6 =>
          intro r v B8 l hr s10 hv
          obtain ⟨pa, v1, v2, rfl, hT, e1, e2⟩ := two_row hv
          exact ⟨_, tg_two hT, rfl, et_test (ev_op (ev_var rfl (Pr.up htv s10)) (ev_var rfl (tt_strs e1)) rv_inT), fun _ => ev_var rfl e2⟩
        · refine s_ret (m := k') (P := dB K (closedF rows ns)) t8 ?_ fun v B' H' a s hv => q _ v B' H' a hv
          have e : closedF rows ns = false := by
            rw [hclosed, List.all_eq_false]
            exact ⟨tag, htag, by rw [hb]; decide⟩
          rw [e]
          exact ev_bl
        · refine ⟨_, _, B8, t8, (s8.trans s9).trans s10, rfl, some tv, rfl, ?_⟩
          rw [take_next ey, List.all_append, hgood]
          simp only [List.all_cons, List.all_nil]
          rw [hb] <;> rfl
      case done5 =>
        intro Bs2 u k' σ2 B6 H6 s7 s8 t6 ⟨hu, x2, hσ, hgood⟩
        subst hu hσ
        rw [List.take_length] at hgood
        refine s_ret (m := k') (P := dB K (closedF rows ns)) t6 ?_ fun v B' H' a s hv => q _ v B' H' a hv
        rw [hclosed, hgood]
        exact ev_bl
end
end Pk


set_option Elab.async false
set_option linter.all false
set_option maxRecDepth 100000
set_option maxHeartbeats 4000000
/-! PkF13: _law_same, of a thing and itself. -/
namespace Pk
open PySem PySem.Spec PyProof.Rows L2 PkH PySem.W
/-- data that == may look at: no dicts, short lists, texts of signs -/
def fine (d : PyData) : Prop := noDict d = true ∧ wide d ∧ d.canLay0 = true
theorem fine_in {ds : List PyData} (h1 : noDicts ds = true) (h2 : wides ds) (h3 : PyData.canLayAll0 ds = true) : ∀ d ∈ ds, fine d
  | d, hd => by
    refine ⟨noDicts_of h1 hd, wides_of h2 hd, ?_⟩
    induction ds with
    | nil => cases hd
    | cons x xs ih =>
      simp only [PyData.canLayAll0, Bool.and_eq_true] at h3
      rcases List.mem_cons.mp hd with rfl | hd
      · exact h3.1
      · rw [noDicts, Bool.and_eq_true] at h1
        rw [wides] at h2
        exact ih h1.2 h2.2 h3.2 hd
def GSame (K : PySem.W.Frag) (n : Nat) : List Pr → Pr → Prop := fun Ps P => ∃ d, Ps = [DD K d, DD K d] ∧ fine d ∧ lev d ≤ n ∧ P = dB K true
/-- a def that calls itself, n levels down -/
def spR (G : Nat → List Pr → Pr → Prop) : Nat → Sp
  | 0 => fun _ _ _ _ => False
  | n + 1 => spF (G n)
section
variable {P : Program} {w : World} {K : PySem.W.Frag} {mg : Str → Option Value} {base : Heap} {B : Hp}
theorem ev_isiT2 {w : Wd} {n m : Nat} {te : TE} {σ : L2.St} {T1 T2 : String} {d : PyData} {b : Bool} (h : Ev w n m te σ B (DD K d)) (hk : PySem.W.kitAny K (.type (tyName d)) [.type T1, .type T2] = some b) :
    Ev w n m (tCB (rIsiT K) (tCons te (tCons (tTup (tCons (tC (.ty T1)) (tCons (tC (.ty T2)) tNil))) tNil))) σ B (dB K b) := fun B1 s1 H c Q q =>
  h B1 s1 H c _ fun v B2 H2 g2 c2 hv => ⟨(by decide : 2 ≤ 100000) |> sz_of, fun p hp => by
    have bp := c2.sub.free hp
    refine ⟨v, p, [.ty T1, .ty T2], _, [.type T1, .type T2], b, rfl, upd_same, .cons (.ty T1) (.cons (.ty T2) .nil), tyx_dd (dp_same (c2.sub.trans (same_new hp)) d v hv), hk, ?_⟩
    exact q _ B2 _ (g2.mut (by
      cases e : H p with
      | none => rfl
      | some u => exact absurd hp (g2.has p (by rw [e]; exact Option.some_ne_none u)))) (c2.mut bp (c2.notS hp)) (.bl _)⟩
def isBS : PyData → Bool
  | .bool _ => true
  | .str _ => true
  | _ => false
theorem kit_bs (d : PyData) (hd : isDict d = false) : PySem.W.kitAny K (.type (tyName d)) [.type "bool", .type "str"] = some (isBS d) := by
  cases d <;> first | rfl | (simp [isDict] at hd)
theorem kit_lt (d : PyData) (hd : isDict d = false) : PySem.W.kitAny K (.type (tyName d)) [.type "list", .type "tuple"] = some (isSeq d) := kit_seq d "list" "tuple" (.inl ⟨rfl, rfl⟩) hd
theorem kib : kitB "int" "bool" = some false := by decide +kernel
theorem scSame : FnScope ["_law_got", "_law_goal", "_law_mine_so", "_law_own"] ["_law_got", "_law_goal"] (defScope (top 55)) := ⟨rfl, rfl, rfl, by decide +kernel, rfl, by decide +kernel, by decide +kernel⟩
theorem kit_some (d : PyData) (T : String) (hd : isDict d = false) (hT : T = "list" ∨ T = "tuple" ∨ T = "bool" ∨ T = "int") : (kitB (tyName d) T).isSome = true := by
  rcases hT with rfl | rfl | rfl | rfl <;> cases d <;> first | rfl | (simp [isDict] at hd)
theorem same_step (T : Txt K mg) (n : Nat) (C_law_same : Cal P w K mg base n "_law_same" ["_law_got", "_law_goal"] (spR (GSame K) n)) : Cal P w K mg base (n + 1) "_law_same" ["_law_got", "_law_goal"] (spF (GSame K n)) := by
  obtain ⟨fd, F⟩ := T.f_law_same
  refine cal_of (k := n) F T.g_law_same scSame (fun Ps P ⟨_, e, _⟩ => by rw [e] <;> rfl) (fun _ _ _ _ _ _ us hl => match us, hl with | [_, _], _ => rfl) fun cdv A o s H E hr => ?_
  refine ⟨_, (pss_cons (ps_if (pt_val (pe_callB (kc_isiT (K := K) rfl) (by rfl) T.m_isinstance (by decide +kernel) (pa_cons (pv 1) (pa_cons (pe_tup (pa_cons (pe_bltn (v := .ty "list") (by rfl) T.m_list (by decide +kernel) rfl) (pa_cons (pe_bltn (v := .ty "tuple") (by rfl) T.m_tuple (by decide +kernel) rfl) pa_nil))) pa_nil)))) (pss_cons (ps_if (PW.pt (pw_or (pt_cmpR op_ne (pe_callB (kc_isi (K := K) rfl) (by rfl) T.m_isinstance (by decide +kernel) (pa_cons (pv 0) (pa_cons (pe_bltn (v := .ty "list") (by rfl) T.m_list (by decide +kernel) rfl) pa_nil))) (pe_callB (kc_isi (K := K) rfl) (by rfl) T.m_isinstance (by decide +kernel) (pa_cons (pv 1) (pa_cons (pe_bltn (v := .ty "list") (by rfl) T.m_list (by decide +kernel) rfl) pa_nil))) (nomark _)) (pw_or1 (pt_cmpR op_ne (pe_callB (kc_isi (K := K) rfl) (by rfl) T.m_isinstance (by decide +kernel) (pa_cons (pv 0) (pa_cons (pe_bltn (v := .ty "tuple") (by rfl) T.m_tuple (by decide +kernel) rfl) pa_nil))) (pe_callB (kc_isi (K := K) rfl) (by rfl) T.m_isinstance (by decide +kernel) (pa_cons (pv 1) (pa_cons (pe_bltn (v := .ty "tuple") (by rfl) T.m_tuple (by decide +kernel) rfl) pa_nil))) (nomark _))))) (pss_one (ps_ret pe_bl)) pss_nil)
    (pss_one (ps_ret (pe_and (pe_cmpR op_eq (pe_callB (kc_len (K := K) rfl) (by rfl) T.m_len PySem.boot_len (pa_cons (pv 0) pa_nil)) (pe_callB (kc_len (K := K) rfl) (by rfl) T.m_len PySem.boot_len (pa_cons (pv 1) pa_nil)) (nomark _)) (pe_one (pe_callB (kc_all (K := K) rfl rfl) (by rfl) T.m_all (by decide +kernel) (pa_cons (pe_lc (own := [("_law_mine_so", 2), ("_law_own", 3)]) (by rfl) scSame.nd (kp_zipA (K := K) rfl (RZ.pi_zipA (by rfl) T.m_zip (pa_cons (pv 0) (pa_cons (pv 1) pa_nil)))) (blkOk_by (by kernel_rfl)) (fun _ _ _ _ _ => (kg_tup (K := K) (n := 2) rfl rfl (pgs_cons (pg_name (i := 2) scSame.nd rfl (by first | exact Or.inl rfl | exact Or.inr rfl)) (pgs_cons (pg_name (i := 3) scSame.nd rfl (by first | exact Or.inl rfl | exact Or.inr rfl)) pgs_nil)))) (fun _ _ _ _ _ => pts_nil) (fun _ _ _ _ _ => (pe_cal C_law_same hr (pa_cons (pv 2) (pa_cons (pv 3) pa_nil))))) pa_nil))))))) pss_nil)
    (pss_cons (ps_if (PW.pt (pw_or (pt_cmpR op_isN (pv 1) pe_non (nomark _)) (pw_or1 (pt_val (pe_callB (kc_isiT (K := K) rfl) (by rfl) T.m_isinstance (by decide +kernel) (pa_cons (pv 1) (pa_cons (pe_tup (pa_cons (pe_bltn (v := .ty "bool") (by rfl) T.m_bool (by decide +kernel) rfl) (pa_cons (pe_bltn (v := .ty "str") (by rfl) T.m_str (by decide +kernel) rfl) pa_nil))) pa_nil))))))) (pss_one (ps_ret (pe_and (pe_cmpR (ko_eq (K := K) rfl hr.units) (pv 0) (pv 1) (nomark _)) (pe_and (pe_cmpR op_eq (pe_callB (kc_isi (K := K) rfl) (by rfl) T.m_isinstance (by decide +kernel) (pa_cons (pv 0) (pa_cons (pe_bltn (v := .ty "bool") (by rfl) T.m_bool (by decide +kernel) rfl) pa_nil))) (pe_callB (kc_isi (K := K) rfl) (by rfl) T.m_isinstance (by decide +kernel) (pa_cons (pv 1) (pa_cons (pe_bltn (v := .ty "bool") (by rfl) T.m_bool (by decide +kernel) rfl) pa_nil))) (nomark _)) (pe_one (pe_cmpR op_eq (pe_cmpR op_isN (pv 0) pe_non (nomark _)) (pe_cmpR op_isN (pv 1) pe_non (nomark _)) (nomark _))))))) pss_nil)
    (pss_one (ps_ret (pe_and (pe_callB (kc_isi (K := K) rfl) (by rfl) T.m_isinstance (by decide +kernel) (pa_cons (pv 0) (pa_cons (pe_bltn (v := .ty "int") (by rfl) T.m_int (by decide +kernel) rfl) pa_nil))) (pe_and (pe_not (pe_callB (kc_isi (K := K) rfl) (by rfl) T.m_isinstance (by decide +kernel) (pa_cons (pv 0) (pa_cons (pe_bltn (v := .ty "bool") (by rfl) T.m_bool (by decide +kernel) rfl) pa_nil)))) (pe_one (pe_cmpR (ko_eq (K := K) rfl hr.units) (pv 0) (pv 1) (nomark _))))))))), ?_⟩
  intro H B vs Ps P0 hs hp ⟨d, hP, ⟨f1, f2, f3⟩, hlev, hP0⟩ D q
  subst hP hP0
  obtain ⟨gv, ov, rfl, h0, h1⟩ := two_at hp
  have hd := dict_of_no f1
  refine q_when (m := 0) (b := isSeq d) (at0 hs) (et_test (ev_isiT2 (ev_var rfl h1) (kit_lt d hd))) (fun hb B1 H1 t1 s1 => ?_) fun hb B1 H1 t1 s1 => ?_
  · have kl := kit_some d "list" hd (.inl rfl)
    have kt := kit_some d "tuple" hd (.inr (.inl rfl))
    have g0 := dd_up h0 s1
    have g1 := dd_up h1 s1
    refine q_no (m := 0) t1 ((et_or (a := false) (b := false) (et_test (K := K) ((ev_op (ev_isi (i := 0) rfl g0 kl) (ev_isi (i := 1) rfl g1 kl) rv_neB).to (congrArg (dB K) (by simp)))) fun _ => et_test (K := K) ((ev_op (ev_isi (i := 0) rfl g0 kt) (ev_isi (i := 1) rfl g1 kt) rv_neB).to (congrArg (dB K) (by simp)))).to rfl) fun B2 H2 t2 s2 => ?_
    have g0' := dd_up g0 s2
    have g1' := dd_up g1 s2
    have step : ∀ ds : List PyData, (d = .list ds ∨ d = .tuple ds) → ∀ x v B3, x ∈ ds.zip ds → (TuP K [DD K x.1, DD K x.2]).p v B3 → ∃ a v1 v2, v = .ref a ∧ SqT K B3 a [v1, v2] ∧ Ev w0 0 (0 + 0) (tCall (spR (GSame K) n) [] E0 (tCons (tVar 2) (tCons (tVar 3) tNil))) [some gv, some ov, some v1, some v2] B3 (dB K true) := fun ds hds x v B3 hx hv => by
      obtain ⟨a, v1, v2, rfl, hT, e1, e2⟩ := two_of hv
      refine ⟨a, v1, v2, rfl, hT, ?_⟩
      obtain ⟨k, hk, ek⟩ := List.mem_iff_getElem.mp hx
      rw [List.getElem_zip] at ek
      have hxe : x.2 = x.1 := by rw [← ek]
      have hxm : x.1 ∈ ds := by
        rw [← ek]
        exact List.getElem_mem _
      have hds2 : noDicts ds = true ∧ wides ds ∧ PyData.canLayAll0 ds = true ∧ levs ds + 1 ≤ n := by
        rcases hds with rfl | rfl
        · exact ⟨by simpa [noDict] using f1, f2.2, by simpa [PyData.canLay0] using f3, hlev⟩
        · exact ⟨by simpa [noDict] using f1, f2.2, by simpa [PyData.canLay0] using f3, hlev⟩
      obtain ⟨m, rfl⟩ : ∃ m, n = m + 1 := ⟨n - 1, by omega⟩
      show Ev w0 0 0 (tCall (spF (GSame K m)) [] E0 (tCons (tVar 2) (tCons (tVar 3) tNil))) [some gv, some ov, some v1, some v2] B3 (dB K true)
      refine ev_fn (ea_cons (ev_var rfl e1) (ea_cons (ev_var rfl (by rw [hxe] at e2; exact e2)) ea_nil)) ⟨x.1, rfl, fine_in hds2.1 hds2.2.1 hds2.2.2.1 x.1 hxm, ?_, rfl⟩
      have z := levs_le hxm
      omega
    cases d with
    | list ds =>
      have q0 := dd_ll g0'
      have q1 := dd_ll g1'
      refine s_ret (P := dB K true) t2 ((ev_andV (K := K) (a := true) (b := true) ((ev_op (ev_cb (ea_cons (ev_var rfl q0) ea_nil) rc_lenL) (ev_cb (ea_cons (ev_var rfl q1) ea_nil) rc_lenL) (rv_eqI (K := K))).to (congrArg (dB K) (by simp))) fun _ => Ev.z (l := 0) (k := 0) (n := 0) (m := 0 + (ds.zip ds).length * 0) ((ev_cb (ea_cons (ev_lo (ev_lc1 (K := K) (c := 0) (fun _ => dB K true) (es_zipA (Y := DD K) (Z := DD K) (ea_cons (ev_var rfl q0) (ea_cons (ev_var rfl q1) ea_nil))).s (by rw [List.length_zip]; have z := f2.1; omega) fun x v B3 l hx s3 hv => ?_)) ea_nil) (rc_allM (fun _ => true) (ds.zip ds))).to (congrArg (dB K) (by simp)))).to rfl) fun v B' H' a s hv => q _ v B' H' a hv
      obtain ⟨a, v1, v2, rfl, hT, e⟩ := step ds (.inl rfl) x v B3 hx hv
      exact ⟨_, tg_two hT, rfl, Ev.z e⟩
    | tuple ds =>
      have q0 := dd_tt g0'
      have q1 := dd_tt g1'
      refine s_ret (P := dB K true) t2 ((ev_andV (K := K) (a := true) (b := true) ((ev_op (ev_cb (ea_cons (ev_var rfl q0) ea_nil) rc_lenT) (ev_cb (ea_cons (ev_var rfl q1) ea_nil) rc_lenT) (rv_eqI (K := K))).to (congrArg (dB K) (by simp))) fun _ => Ev.z (l := 0) (k := 0) (n := 0) (m := 0 + (ds.zip ds).length * 0) ((ev_cb (ea_cons (ev_lo (ev_lc1 (K := K) (c := 0) (fun _ => dB K true) (es_zipT (Y := DD K) (Z := DD K) (ea_cons (ev_var rfl q0) (ea_cons (ev_var rfl q1) ea_nil))).s (by rw [List.length_zip]; have z := f2.1; omega) fun x v B3 l hx s3 hv => ?_)) ea_nil) (rc_allM (fun _ => true) (ds.zip ds))).to (congrArg (dB K) (by simp)))).to rfl) fun v B' H' a s hv => q _ v B' H' a hv
      obtain ⟨a, v1, v2, rfl, hT, e⟩ := step ds (.inr rfl) x v B3 hx hv
      exact ⟨_, tg_two hT, rfl, Ev.z e⟩
    | _ => cases hb
  · have g0 := dd_up h0 s1
    have g1 := dd_up h1 s1
    have kb := kit_some d "bool" hd (.inr (.inr (.inl rfl)))
    have ki := kit_some d "int" hd (.inr (.inr (.inr rfl)))
    have hsh : SeqAt.shaped d = true := by
      cases d with
      | list _ => cases hb
      | tuple _ => cases hb
      | dict _ => simp [isDict] at hd
      | _ => simp [SeqAt.shaped, f3, PyData.depth]
    have heq : PyData.eqv d d = true := by
      cases d with
      | list _ => cases hb
      | tuple _ => cases hb
      | dict _ => simp [isDict] at hd
      | _ => simp [PyData.eqv]
    refine q_when (m := 0) (b := isNo d || isBS d) t1 (et_or (a := isNo d) (b := isBS d) (et_test (ev_op (ev_var rfl g1) (ev_non (K := K)) rv_isN)) fun _ => et_test (ev_isiT2 (ev_var rfl g1) (kit_bs d hd))) (fun hb2 B2 H2 t2 s2 => ?_) fun hb2 B2 H2 t2 s2 => ?_
    · have g0' := dd_up g0 s2
      have g1' := dd_up g1 s2
      exact s_ret (m := 0) (P := dB K true) t2 ((ev_andV (K := K) (a := true) (b := true) ((ev_op (ev_var (i := 0) rfl g0') (ev_var (i := 1) rfl g1') (rv_eqD (K := K) hsh hsh)).to (congrArg (dB K) heq)) fun _ =>
        ((ev_andV (K := K) (a := true) (b := true) ((ev_op (ev_isi (i := 0) rfl g0' kb) (ev_isi (i := 1) rfl g1' kb) (rv_eqB (K := K))).to (congrArg (dB K) (by simp))) fun _ =>
          ((ev_op (ev_op (ev_var (i := 0) rfl g0') (ev_non (K := K)) rv_isN) (ev_op (ev_var (i := 1) rfl g1') (ev_non (K := K)) rv_isN) (rv_eqB (K := K))).to (congrArg (dB K) (by simp)))).to rfl)).to rfl) fun v B' H' a s hv => q _ v B' H' a hv
    · have g0' := dd_up g0 s2
      have g1' := dd_up g1 s2
      have hty : isTy d "int" = true ∧ isTy d "bool" = false := by
        cases d with
        | int n => exact ⟨rfl, congrArg (fun o => Option.getD o false) kib⟩
        | none => simp [isNo] at hb2
        | bool _ => simp [isBS] at hb2
        | str _ => simp [isBS] at hb2
        | list _ => cases hb
        | tuple _ => cases hb
        | dict _ => simp [isDict] at hd
      exact s_ret (m := 0) (P := dB K true) t2 ((ev_andV (K := K) (a := true) (b := true) ((ev_isi (i := 0) rfl g0' ki).to (congrArg (dB K) hty.1)) fun _ =>
        ((ev_andV (K := K) (a := true) (b := true) ((ev_notV (K := K) (ev_isi (i := 0) rfl g0' kb)).to (congrArg (dB K) (by rw [hty.2] <;> rfl))) fun _ =>
          ((ev_op (ev_var (i := 0) rfl g0') (ev_var (i := 1) rfl g1') (rv_eqD (K := K) hsh hsh)).to (congrArg (dB K) heq))).to rfl)).to rfl) fun v B' H' a s hv => q _ v B' H' a hv
theorem calSame (T : Txt K mg) : ∀ n, Cal P w K mg base (n + 1) "_law_same" ["_law_got", "_law_goal"] (spF (GSame K n)) := by
  intro n
  induction n with
  | zero =>
    obtain ⟨fd, F⟩ := T.f_law_same
    exact same_step T 0 ⟨_, fd, ⟨fun _ _ _ _ h => h.elim, fun _ _ _ _ _ _ _ _ _ _ _ _ _ h => h.elim⟩, T.g_law_same, F.kp, F.bindsN fun _ _ _ _ _ _ us hl => match us, hl with | [_, _], _ => rfl⟩
  | succ n ih => exact same_step T (n + 1) ih
end
end Pk


set_option Elab.async false
set_option linter.all false
set_option maxRecDepth 100000
set_option maxHeartbeats 4000000
/-! Pk16: the urn: a world with one list of three numbers that changes. -/
namespace Pk
open PySem PySem.Spec PyProof.Rows L2 PkH
def tri (a b c : Int) : HO := .lst [.int a, .int b, .int c]
/-- the urn at u: no more than n draws so far -/
def wu (u : Addr) : Wd where
  S := fun x => x = u
  W := fun n H => ∃ a b c : Int, H u = some (tri a b c) ∧ 0 ≤ a ∧ 0 ≤ c ∧ c ≤ n
  mono := fun n m H h ⟨a, b, c, e, h1, h2, h3⟩ => ⟨a, b, c, e, h1, h2, by omega⟩
  stab := fun n H H' h ⟨a, b, c, e, r⟩ => ⟨a, b, c, (h u rfl).trans e, r⟩
  has := fun n H x ⟨a, b, c, e, _⟩ hx => by
    rw [show x = u from hx, e]
    exact Option.some_ne_none _
/-- one of several things -/
def ExP {α : Type} (c : α → Prop) (f : α → Pr) : Pr := ⟨fun v B => ∃ x, c x ∧ (f x).p v B, fun v B B' s ⟨x, h, hp⟩ => ⟨x, h, (f x).mono v B B' s hp⟩⟩
/-- a def that draws from the urn: its first argument -/
def spU (G : Nat → Nat → List Pr → Pr → Prop) : Sp := fun vs H Q _ => ∃ u n m B Ps P, Ctx (wu u) n B H ∧ PsAt vs (VV (.ref u) :: Ps) B ∧ G n m Ps P ∧ ∀ v B' H', Gr (wu u).S B H B' H' → Ctx (wu u) m B' H' → P.p v B' → Q v H'
section
variable {w : Wd} {n m l : Nat} {K : PySem.W.Frag} {B H : Hp} {σ : L2.St} {P : Pr} {a : Addr} {o : HO} {te : TE}
theorem Go.wl {k : Hp → (V → Hp → Prop) → Prop} {P : V → Hp → Prop} (ha : ¬ w.S a) (h : Go w n m k B P) : Go (wl w a o) n m k B P := fun H c Q q =>
  h H ⟨c.sub, fun b s => c.cl b (.inl s), c.wd.1⟩ Q fun v B' H' g c' p => q v B' H' ⟨g.ex, fun b u hb e => g.keep b u (fun s => hb (.inl s)) e, g.has, g.fr⟩
    ⟨c'.sub, fun b s => by
      rcases s with s | rfl
      · exact c'.cl b s
      · cases e : B' b with
        | none => rfl
        | some x =>
          rcases g.fr b (by rw [e]; exact Option.some_ne_none x) with z | z
          · exact absurd (c.cl b (.inr rfl)) z
          · exact absurd (c.wd.2.symm.trans z) (Option.some_ne_none o), ⟨c'.wd, g.keep a o ha c.wd.2⟩⟩ p
/-- the world v holds all of the world w -/
def Inc (v w : Wd) : Prop := ∀ (n m : Nat) (k : Hp → (V → Hp → Prop) → Prop) (B : Hp) (P : V → Hp → Prop), Go v n m k B P → Go w n m k B P
theorem inc_refl : Inc w w := fun _ _ _ _ _ h => h
theorem inc_wl {v : Wd} (h : Inc v w) (ha : ¬ w.S a) : Inc v (wl w a o) := fun n m k B P g => (h n m k B P g).wl ha
theorem go_fnU {G : Nat → Nat → List Pr → Pr → Prop} {Ps : List Pr} {vs : List V} {E : XK} {u : Addr} (hi : Inc (wu u) w) (hv : PsAt vs (VV (.ref u) :: Ps) B) (hG : G n m Ps P) : Go w n m (fun H Q => spU G vs H Q E) B P.p :=
  hi n m _ B _ fun H c Q q => ⟨u, n, m, B, Ps, P, c, hv, hG, q⟩
theorem ev_fnU {G : Nat → Nat → List Pr → Pr → Prop} {Ps : List Pr} {t : TA} {E : XK} {u : Addr} (hi : Inc (wu u) w) (ha : EvA w n m t σ B (VV (.ref u) :: Ps)) (hG : G m l Ps P) : Ev w n l (tCall (spU G) [] E t) σ B P := fun B1 s1 =>
  Go.bind (f := fun vs H1 Q => spU G (vs ++ []) H1 Q E) (ha B1 s1) fun vs B2 s2 hv => go_fnU hi (by rw [List.append_nil]; exact hv) hG
/-- when an argument is one of several things -/
theorem Go.ex {α β γ : Type} {c : α → Prop} {f : α → γ → Hp → Prop} {k : Hp → (γ → Hp → Prop) → Prop} {g : γ → Hp → (β → Hp → Prop) → Prop} {R : β → Hp → Prop} (h : Go w n m k B (fun v B' => ∃ x, c x ∧ f x v B'))
    (h2 : ∀ x, c x → ∀ v B1, Same B B1 → f x v B1 → Go w m l (g v) B1 R) : Go w n l (fun H Q => k H fun v H1 => g v H1 Q) B R :=
  Go.bind (f := g) h fun v B1 s1 ⟨x, hx, hv⟩ => h2 x hx v B1 s1 hv
end
section
variable {P : Program} {w : World} {K : PySem.W.Frag} {mg : Str → Option Value} {base : Heap} {x qual : Str} {st : Stmt} {f : Addr} {fd : FuncData} {N ps : List Str} {k : Nat}
theorem cal_ofU {G : Nat → Nat → List Pr → Pr → Prop} (F : FnP K x qual st f fd) (g : mg x = some (.ref f)) (S : FnScope N ps (defScope st))
    (hl : ∀ n m Ps P, G n m Ps P → Ps.length + 1 = ps.length)
    (hb : ∀ (kV doc pm : Value) (an : Option Addr) (cdv ct : Value) (us : List Value), us.length = ps.length → bindArgs (PySem.W.fnOf x qual (defArgs st) (defBody st) (defScope st) .none kV doc pm an cdv ct) ⟨us, []⟩ = pure (ps.zip us))
    (body : ∀ (cdv : Value) (A : Around) (outer : List Env) (s : Shared) (H : Hp) (E : XK), Room k (A.deeper (envOfC qual (defScope st) s.heap.objs.size f cdv)) →
      ∃ t, PSs (cxOf CX0 P w K mg base N qual (defScope st) f cdv A outer s H E) (defBody st) t ∧ ∀ H u n m B vs Ps P0, Ctx (wu u) n B H → PsAt vs Ps B → G n m Ps P0 → ∀ D : Ends, (∀ v B' H', At (wu u).S (wu u) m B H B' H' → P0.p v B' → D.rt v H') → t D (start N (.ref u :: vs)) H) :
    Cal P w K mg base (k + 1) x ps (spU G) := by
  refine ⟨f, fd, F.ok S (fun vs H Q E ⟨u, n, m, B, Ps, P, _, hp, hG, _⟩ => ?_) fun cdv A outer s H vs Q E hr h => ?_, g, F.kp, F.bindsN hb⟩
  · rw [ps_len hp, List.length_cons]
    exact hl n m Ps P hG
  obtain ⟨t, ht, hq⟩ := body cdv A outer s H E hr
  obtain ⟨u, n, m, B, Ps, P, c, hp, hG, q⟩ := h
  refine ⟨t, ht, ?_⟩
  cases hp with
  | cons h1 h2 =>
    obtain rfl := h1
    exact hq H u n m B _ Ps P c h2 hG _ fun v B' H' a hv => q v B' H' a.g a.c hv
end
/-! ### the three numbers -/
section
variable {S0 : Addr → Prop} {w : Wd} {n m l : Nat} {K : PySem.W.Frag} {B0 H0 B H : Hp} {D : Ends} {σ : L2.St} {te : TE} {tz : TS} {a : Addr} {o o' : HO}
/-- something that may be changed is changed -/
theorem At.setS (t : At S0 (wl w a o) n B0 H0 B H) (hw : ¬ w.S a) (h0 : S0 a) : At S0 (wl w a o') n B0 H0 B (upd H a o') where
  c := {
    sub := fun b u e => by rw [upd_ne (ne_of_none e t.outB)]; exact t.c.sub b u e
    cl := t.c.cl
    wd := ⟨w.stab n H _ (fun b s => upd_ne fun z => hw (by rw [← z]; exact s)) t.c.wd.1, upd_same⟩ }
  g := {
    ex := t.g.ex
    keep := fun b u s e => by rw [upd_ne fun z => s (by rw [z]; exact h0)]; exact t.g.keep b u s e
    has := fun b h => by
      by_cases hb : b = a
      · rw [hb, upd_same]
        exact Option.some_ne_none _
      · rw [upd_ne hb]
        exact t.g.has b h
    fr := t.g.fr }
  nw := t.nw
/-- x[i] = e -/
theorem q_put {i : Nat} {vs : List V} {j : Int} {k : Nat} {P : Pr} (t : At S0 (wl w a (.lst vs)) n B0 H0 B H) (hw : ¬ w.S a) (h0 : S0 a) (hi : σ[i]? = some (some (.ref a))) (hj : ixN vs.length j = some k) (h : Ev (wl w a (.lst vs)) n m te σ B P)
    (q : ∀ v B' H', At S0 (wl w a (.lst (vs.set k v))) m B0 H0 B' H' → Same B B' → P.p v B' → tz D σ H') : tSeq (tAsg te (gSub (tVar i) (tC (.int j)) rSetL)) tz D σ H :=
  t.use (Q := fun x H1 => gSub (tVar i) (tC (.int j)) rSetL x σ H1 (fun σ' H' => tz D σ' H')) (h B (Same.refl B)) fun v B' H' t' s' hv =>
    ⟨.ref a, hi, a, vs, j, k, rfl, rfl, t'.here, hj, q v B' _ (t'.setS hw h0) s' hv⟩
end
end Pk


set_option Elab.async false
set_option linter.all false
set_option maxRecDepth 100000
set_option maxHeartbeats 4000000
/-! PkF14: _law_take, _law_of. -/
namespace Pk
open PySem PySem.Spec PyProof.Rows L2 PkH PySem.W
section
variable {S0 : Addr → Prop} {n m l : Nat} {K : PySem.W.Frag} {B0 H0 B H : Hp} {D : Ends} {σ : L2.St} {a b c : Int} {u : Addr} {i : Nat}
theorem ev_tri0 (hi : σ[i]? = some (some (.ref u))) : Ev (wl w0 u (tri a b c)) n n (tOp (rIxL K) (tVar i) (tC (.int 0))) σ B (dI K a) := ev_ixW (vs := [.int a, .int b, .int c]) (j := 0) hi ev_int rfl (Dp.int a)
theorem ev_tri1 (hi : σ[i]? = some (some (.ref u))) : Ev (wl w0 u (tri a b c)) n n (tOp (rIxL K) (tVar i) (tC (.int 1))) σ B (dI K b) := ev_ixW (vs := [.int a, .int b, .int c]) (j := 1) hi ev_int rfl (Dp.int b)
theorem ev_tri2 (hi : σ[i]? = some (some (.ref u))) : Ev (wl w0 u (tri a b c)) n n (tOp (rIxL K) (tVar i) (tC (.int 2))) σ B (dI K c) := ev_ixW (vs := [.int a, .int b, .int c]) (j := 2) hi ev_int rfl (Dp.int c)
theorem at_tri (cx : Ctx (wu u) n B H) : ∃ a b c : Int, At (wu u).S (wl w0 u (tri a b c)) 0 B H B H ∧ 0 ≤ a ∧ 0 ≤ c ∧ c ≤ n := by
  obtain ⟨a, b, c, e, h1, h2, h3⟩ := cx.wd
  exact ⟨a, b, c, ⟨⟨cx.sub, fun x s => cx.cl x (s.elim False.elim id), ⟨True.intro, e⟩⟩, Gr.refl, fun x s => .inl (s.elim False.elim id)⟩, h1, h2, h3⟩
theorem at_wu (t : At S0 (wl w0 u (tri a b c)) l B0 H0 B H) (h1 : 0 ≤ a) (h2 : 0 ≤ c) (h3 : c ≤ n) : At S0 (wu u) n B0 H0 B H :=
  ⟨⟨t.c.sub, fun x s => t.c.cl x (.inr s), ⟨a, b, c, t.c.wd.2, h1, h2, h3⟩⟩, t.g, fun x s => t.nw x (.inr s)⟩
def below (K : PySem.W.Frag) (low : Nat) : Pr := ExP (fun i : Nat => i < low) fun i => dI K (i : Int)
theorem below_of {low : Nat} {z : Int} (h : 0 < low) {v : V} (hv : (dI K (z.fmod (low : Int))).p v B) : (below K low).p v B := by
  have h1 : 0 ≤ z.fmod (low : Int) := Int.fmod_nonneg_of_pos z (by omega)
  have h2 : z.fmod (low : Int) < low := Int.fmod_lt_of_pos z (by omega)
  refine ⟨(z.fmod (low : Int)).toNat, by omega, ?_⟩
  show (dI K (((z.fmod (low : Int)).toNat : Nat) : Int)).p v B
  rw [Int.toNat_of_nonneg h1]
  exact hv
def GTake (K : PySem.W.Frag) : Nat → Nat → List Pr → Pr → Prop := fun n m Ps P => ∃ low : Nat, Ps = [dI K (low : Int)] ∧ 1 ≤ low ∧ low ≤ 1000000 ∧ n ≤ 1000000 ∧ m = n + 1 ∧ P = below K low
end
theorem scTake : FnScope ["_law_urn", "_law_low_so", "_law_once", "_law_far", "_law_twice", "_law_drawn"] ["_law_urn", "_law_low_so"] (defScope (top 52)) := ⟨rfl, rfl, rfl, by decide +kernel, rfl, by decide +kernel, by decide +kernel⟩
section
variable {P : Program} {w : World} {K : PySem.W.Frag} {mg : Str → Option Value} {base : Heap}
theorem calTake (T : Txt K mg) : Cal P w K mg base 1 "_law_take" ["_law_urn", "_law_low_so"] (spU (GTake K)) := by
  obtain ⟨fd, F⟩ := T.f_law_take
  refine cal_ofU (k := 0) F T.g_law_take scTake (fun _ _ _ _ ⟨_, e, _⟩ => by rw [e] <;> rfl) (fun _ _ _ _ _ _ us hl => match us, hl with | [_, _], _ => rfl) fun cdv A o s H E hr => ?_
  refine ⟨_, (pss_cons (ps_if (pt_cmpR op_gt (pe_ix (kx_list (K := K) rfl) (pv 0) pe_int (fun _ _ => rfl)) pe_int (nomark _)) (pss_cons (ps_set (i := 5) scTake.nd rfl (by first | exact Or.inl rfl | exact Or.inr rfl) (pe_op op_modN (pe_callTy call_int1 (by rfl) T.m_int (by decide +kernel) (pa_cons (pe_ix (kx_list (K := K) rfl) (pv 0) pe_int (fun _ _ => rfl)) pa_nil)) (pv 1)))
    (pss_cons (ps_asg (pe_op op_fdivN (pe_ix (kx_list (K := K) rfl) (pv 0) pe_int (fun _ _ => rfl)) (pv 1)) (pg_sub (pv 0) pe_int set_list))
    (pss_one (ps_ret (pv 5))))) pss_nil)
    (pss_cons (ps_asg (pe_op op_add (pe_ix (kx_list (K := K) rfl) (pv 0) pe_int (fun _ _ => rfl)) pe_int) (pg_sub (pv 0) pe_int set_list))
    (pss_cons (ps_set (i := 2) scTake.nd rfl (by first | exact Or.inl rfl | exact Or.inr rfl) (pe_op op_modN (pe_callTy call_int1 (by rfl) T.m_int (by decide +kernel) (pa_cons (pe_op op_mul (pe_op op_add (pe_ix (kx_list (K := K) rfl) (pv 0) pe_int (fun _ _ => rfl)) (pe_op op_mul pe_int (pe_ix (kx_list (K := K) rfl) (pv 0) pe_int (fun _ _ => rfl)))) (pe_op op_add pe_int (pe_ix (kx_list (K := K) rfl) (pv 0) pe_int (fun _ _ => rfl)))) pa_nil)) pe_int))
    (pss_cons (ps_set (i := 3) scTake.nd rfl (by first | exact Or.inl rfl | exact Or.inr rfl) (pe_op op_add (pe_op op_modN (pe_callTy call_int1 (by rfl) T.m_int (by decide +kernel) (pa_cons (pv 2) pa_nil)) pe_int) pe_int))
    (pss_cons (ps_set (i := 4) scTake.nd rfl (by first | exact Or.inl rfl | exact Or.inr rfl) (pe_op op_modN (pe_callTy call_int1 (by rfl) T.m_int (by decide +kernel) (pa_cons (pe_op op_mul (pe_op op_add (pe_op op_add (pv 2) (pe_ix (kx_list (K := K) rfl) (pv 0) pe_int (fun _ _ => rfl))) (pe_op op_fdivN (pe_ix (kx_list (K := K) rfl) (pv 0) pe_int (fun _ _ => rfl)) pe_int)) (pv 3)) pa_nil)) pe_int))
    (pss_one (ps_ret (pe_op op_modN (pe_callTy call_int1 (by rfl) T.m_int (by decide +kernel) (pa_cons (pe_op op_fdivN (pe_op op_modN (pe_callTy call_int1 (by rfl) T.m_int (by decide +kernel) (pa_cons (pe_op op_add (pe_op op_mul (pv 4) pe_int) (pv 2)) pa_nil)) pe_int) pe_int) pa_nil)) (pv 1))))))))), ?_⟩
  intro H u n m B vs Ps P0 cx hp ⟨low, hP, h1, h2, hn, hm, hP0⟩ D q
  subst hP hm hP0
  obtain ⟨lv, rfl, hl⟩ := one_of hp
  obtain ⟨a, b, c, t0, ha, hc, hcn⟩ := at_tri cx
  have hno : ∀ x, ¬ w0.S x := fun _ z => z
  refine q_when (m := 0) (b := decide (0 < a)) t0 (et_test (K := K) (ev_op (ev_tri0 rfl) ev_int rv_I0b)) (fun hb B1 H1 t1 s1 => ?_) fun hb B1 H1 t1 s1 => ?_
  · refine q_asg (m := 0) t1 (ev_op (ev_cb (ea_cons (ev_tri0 (i := 0) rfl) ea_nil) rc_int1) (ev_var (i := 1) rfl (dd_up hl s1)) (rv_Ii (by omega))) fun v B2 H2 t2 s2 hv => ?_
    refine q_put (m := 0) (j := 0) (k := 0) t2 (hno u) rfl rfl rfl (ev_op (ev_tri0 (i := 0) rfl) (ev_var (i := 1) rfl (dd_up hl (s1.trans s2))) (rv_Ii ⟨by omega, by omega⟩)) fun v2 B3 H3 t3 s3 hv2 => ?_
    obtain rfl := dd_int hv2
    have t4 : At (wu u).S (wl w0 u (tri (a.fdiv low) b c)) 0 B H B3 H3 := t3
    refine s_ret (m := 0) (P := dI K (a.fmod low)) t4 (ev_var (i := 5) rfl (dd_up hv s3)) fun v3 B4 H4 t5 s4 hv3 => q v3 B4 H4 (at_wu t5 (Int.fdiv_nonneg ha (by omega)) hc (by omega)) (below_of (by omega) hv3)
  · refine q_put (m := 0) (j := 2) (k := 2) t1 (hno u) rfl rfl rfl (ev_op (ev_tri2 (i := 0) rfl) ev_int rv_I0i) fun v2 B3 H3 t3 s3 hv2 => ?_
    obtain rfl := dd_int hv2
    have t4 : At (wu u).S (wl w0 u (tri a b (c + 1))) 0 B H B3 H3 := t3
    have hl3 := dd_up hl (s1.trans s3)
    refine q_asg (m := 0) t4 (ev_op (ev_cb (ea_cons (ev_op (ev_op (ev_tri1 (i := 0) rfl) (ev_op ev_int (ev_tri2 (i := 0) rfl) (rv_Ii (.inl ⟨by decide, by decide⟩))) rv_I0i) (ev_op ev_int (ev_tri2 (i := 0) rfl) rv_I0i) (rv_Ii (.inr ⟨by omega, by omega⟩))) ea_nil) rc_int1) ev_int (rv_Ii (by decide))) fun v4 B4 H4 t5 s5 hv4 => ?_
    refine q_asg (m := 0) t5 (ev_op (ev_op (ev_cb (ea_cons (ev_var (i := 2) rfl hv4) ea_nil) rc_int1) ev_int (rv_Ii (by decide))) ev_int rv_I0i) fun v6 B6 H6 t6 s6 hv6 => ?_
    have hf : ∀ z : Int, 0 ≤ z.fmod 40009 ∧ z.fmod 40009 < 40009 := fun z => ⟨Int.fmod_nonneg_of_pos z (by decide), Int.fmod_lt_of_pos z (by decide)⟩
    refine q_asg (m := 0) t6 (ev_op (ev_cb (ea_cons (ev_op (ev_op (ev_op (ev_var (i := 2) rfl (dd_up hv4 s6)) (ev_tri2 (i := 0) rfl) rv_I0i) (ev_op (ev_tri1 (i := 0) rfl) ev_int (rv_Ii ⟨by decide, by decide⟩)) rv_I0i) (ev_var (i := 3) rfl hv6) (rv_Ii (.inr (by
      have z := hf (((b + 48271 * (c + 1)) * (39373 + (c + 1))).fmod 2147483647)
      exact ⟨by omega, by omega⟩)))) ea_nil) rc_int1) ev_int (rv_Ii (by decide))) fun v7 B7 H7 t7 s7 hv7 => ?_
    exact s_ret (m := 0) t7 (ev_op (ev_cb (ea_cons (ev_op (ev_op (ev_cb (ea_cons (ev_op (ev_op (ev_var (i := 4) rfl hv7) ev_int (rv_Ii (.inr ⟨by decide, by decide⟩))) (ev_var (i := 2) rfl (dd_up hv4 (s6.trans s7))) rv_I0i) ea_nil) rc_int1) ev_int (rv_Ii (by decide))) ev_int (rv_Ii ⟨by decide, by decide⟩)) ea_nil) rc_int1) (ev_var (i := 1) rfl (dd_up hl3 (((s5.trans s6).trans s7)))) (rv_Ii (by omega))) fun v8 B8 H8 t8 s8 hv8 => q v8 B8 H8 (at_wu t8 ha (by omega) (by omega)) (below_of (by omega) hv8)
end
end Pk


set_option Elab.async false
set_option linter.all false
set_option maxRecDepth 100000
set_option maxHeartbeats 4000000
/-! PkF15: _law_of, _law_pick. -/
namespace Pk
open PySem PySem.Spec PyProof.Rows L2 PkH PySem.W
section
variable {S0 : Addr → Prop} {w : Wd} {n m l : Nat} {K : PySem.W.Frag} {B0 H0 B H : Hp} {D : Ends} {σ : L2.St} {te : TE} {tz : TS} {P : Pr} {Ps : List Pr} {a b : Addr} {o o' : HO}
theorem ev_wl (ha : ¬ w.S a) (h : Ev w n m te σ B P) : Ev (wl w a o) n m te σ B P := fun B1 s1 => (h B1 s1).wl ha
theorem At.swap (t : At S0 (wl (wl w a o) b o') n B0 H0 B H) : At S0 (wl (wl w b o') a o) n B0 H0 B H :=
  ⟨⟨t.c.sub, fun x s => t.c.cl x (by
    rcases s with (s | s) | s
    · exact .inl (.inl s)
    · exact .inr s
    · exact .inl (.inr s)), ⟨⟨t.c.wd.1.1, t.c.wd.2⟩, t.c.wd.1.2⟩⟩, t.g, fun x s => t.nw x (by
    rcases s with (s | s) | s
    · exact .inl (.inl s)
    · exact .inr s
    · exact .inl (.inr s))⟩
theorem At.not0 (t : At S0 w n B0 H0 B H) {x : Addr} (h : H x = none) : H0 x = none := by
  cases e : H0 x with
  | none => rfl
  | some u => exact absurd h (t.g.has x (by rw [e]; exact Option.some_ne_none u))
theorem At.use1 {kk : List V → Hp → Prop} (t : At S0 w n B0 H0 B H) (h : Ev w n m te σ B P) (q : ∀ v B' H', At S0 w m B0 H0 B' H' → Same B B' → P.p v B' → kk [v] H') : tCons te tNil σ H kk :=
  t.use (Q := fun y H1 => kk [y] H1) (h B (Same.refl B)) q
theorem rv_ixB : RV (rIxL K) (LiP K Ps) (below K Ps.length) (ExP (fun P => P ∈ Ps) id) := fun w n B x y hx hy => by
  obtain ⟨i, hi, hy⟩ := hy
  have e : atI Ps (i : Int) = some Ps[i] := (atI_nat hi).trans (List.getElem?_eq_getElem hi)
  exact (rv_ixL e w n B x y hx hy).imp fun v B' _ h => ⟨Ps[i], List.getElem_mem hi, h⟩
/-- x, y = list(e), [] -/
theorem q_parOwn {i j : Nat} (t : At S0 w n B0 H0 B H) {xs : List Str} (h : Ev w n m te σ B P) (hP : P = LiP K (xs.map (dS K)) ∨ P = TuP K (xs.map (dS K)))
    (q : ∀ p f vs B' H', At S0 (wl (wl w p (.lst vs)) f (.lst [])) m B0 H0 B' H' → Same B B' → ¬ w.S p → H0 p = none → ¬ (wl w p (.lst vs)).S f → H0 f = none → PsAt vs (xs.map (dS K)) B' → tz D ((σ.set i (some (.ref p))).set j (some (.ref f))) H') :
    tSeq (tPar i j (tCons (tCB (fun xs H Q => ∃ p ys, xs = [V.ref p] ∧ (SqL K H p ys ∨ SqT K H p ys) ∧ ∀ l, H l = none → Q (.ref l) (upd H l (.lst ys))) (tCons te tNil)) (tCons (tLst tNil) tNil))) tz D σ H := by
  refine t.use (Q := fun v H1 => ∃ p ys, [v] = [V.ref p] ∧ (SqL K H1 p ys ∨ SqT K H1 p ys) ∧ ∀ l, H1 l = none → tLst tNil σ (upd H1 l (.lst ys)) fun x H2 => ∃ v' u, [V.ref l, x] = [v', u] ∧ tz D ((σ.set i (some v')).set j (some u)) H2) (h B (Same.refl B)) fun v B' H' t' s' hv => ?_
  obtain ⟨p0, vs, rfl, h1, h2⟩ : ∃ p0 vs, v = V.ref p0 ∧ (SqL K H' p0 vs ∨ SqT K H' p0 vs) ∧ PsAt vs (xs.map (dS K)) B' := by
    rcases hP with rfl | rfl
    · obtain ⟨p0, vs, e, h1, h2⟩ := hv
      exact ⟨p0, vs, e, .inl (sqL_same t'.c.sub h1), h2⟩
    · obtain ⟨p0, vs, e, h1, h2⟩ := hv
      exact ⟨p0, vs, e, .inr (sqT_same t'.c.sub h1), h2⟩
  refine ⟨p0, vs, rfl, h1, fun l hl => ⟨Nat.zero_le _, fun f hf => ⟨_, _, rfl, ?_⟩⟩⟩
  have t2 : At S0 (wl w l (.lst vs)) m B0 H0 B' _ := t'.more hl
  exact q l f vs B' _ (t2.more hf) s' (t'.c.notS hl) (t'.not0 hl) (t2.c.notS hf) (t2.not0 hf) h2
def GOf (K : PySem.W.Frag) : Nat → Nat → List Pr → Pr → Prop := fun n m Ps P => ∃ Qs, Ps = [LiP K Qs] ∧ 1 ≤ Qs.length ∧ Qs.length ≤ 1000000 ∧ n ≤ 1000000 ∧ m = n + 1 ∧ P = ExP (fun P => P ∈ Qs) id
/-- what is picked, out of what -/
def picked (xs : List Str) (many : Nat) (fs : List Str) : Prop := fs.length = min many xs.length ∧ ∃ rs, (fs ++ rs).Perm xs
def GPick (K : PySem.W.Frag) : Nat → Nat → List Pr → Pr → Prop := fun n m Ps P => ∃ (xs : List Str) (Q : Pr) (many : Nat), (Q = LiP K (xs.map (dS K)) ∨ Q = TuP K (xs.map (dS K))) ∧ Ps = [Q, dI K (many : Int)] ∧ xs.length ≤ 1000 ∧ many ≤ 1000 ∧ n + many ≤ 1000000 ∧ m = n + many ∧ P = ExP (picked xs many) (fun fs => LiP K (fs.map (dS K)))
theorem perm_erase {α : Type} {l : List α} {i : Nat} (h : i < l.length) : List.Perm (l[i] :: l.eraseIdx i) l := by
  rw [List.eraseIdx_eq_take_drop_succ]
  have e : l = l.take i ++ l[i] :: l.drop (i + 1) := by
    rw [List.getElem_cons_drop, List.take_append_drop]
  exact (List.perm_middle.symm).trans (List.Perm.of_eq e.symm)
end
theorem scOf : FnScope ["_law_urn", "_law_some_so"] ["_law_urn", "_law_some_so"] (defScope (top 54)) := ⟨rfl, rfl, rfl, by decide +kernel, rfl, by decide +kernel, by decide +kernel⟩
theorem scPick : FnScope ["_law_urn", "_law_pool", "_law_many_so", "_law_turn", "_law_rest_so", "_law_found"] ["_law_urn", "_law_pool", "_law_many_so"] (defScope (top 56)) := ⟨rfl, rfl, rfl, by decide +kernel, rfl, by decide +kernel, by decide +kernel⟩
section
variable {P : Program} {w : World} {K : PySem.W.Frag} {mg : Str → Option Value} {base : Heap}
theorem calOf (T : Txt K mg) : Cal P w K mg base 2 "_law_of" ["_law_urn", "_law_some_so"] (spU (GOf K)) := by
  have C_law_take := calTake (P := P) (w := w) (base := base) T
  obtain ⟨fd, F⟩ := T.f_law_of
  refine cal_ofU (k := 1) F T.g_law_of scOf (fun _ _ _ _ ⟨_, e, _⟩ => by rw [e] <;> rfl) (fun _ _ _ _ _ _ us hl => match us, hl with | [_, _], _ => rfl) fun cdv A o s H E hr => ?_
  refine ⟨_, (pss_one (ps_ret (pe_ix (kx_list (K := K) rfl) (pv 1) (pe_cal C_law_take hr (pa_cons (pv 0) (pa_cons (pe_callB (kc_len (K := K) rfl) (by rfl) T.m_len PySem.boot_len (pa_cons (pv 1) pa_nil)) pa_nil))) (fun _ _ => rfl)))), ?_⟩
  intro H u n m B vs Ps P0 cx hp ⟨Qs, hP, h1, h2, hn, hm, hP0⟩ D q
  subst hP hm hP0
  obtain ⟨lv, rfl, hl⟩ := one_of hp
  have t0 : At (wu u).S (wu u) n B H B H := At.start cx
  exact s_ret t0 (ev_op (ev_var (i := 1) rfl hl) (ev_fnU (u := u) inc_refl (ea_cons (ev_var (i := 0) (P := VV (.ref u)) rfl rfl) (ea_cons (ev_cb (ea_cons (ev_var (i := 1) rfl hl) ea_nil) rc_lenL) ea_nil)) ⟨Qs.length, rfl, h1, h2, hn, rfl, rfl⟩) rv_ixB) fun v B' H' t s hv => q v B' H' t hv
theorem calPick (T : Txt K mg) : Cal P w K mg base 2 "_law_pick" ["_law_urn", "_law_pool", "_law_many_so"] (spU (GPick K)) := by
  have C_law_take := calTake (P := P) (w := w) (base := base) T
  obtain ⟨fd, F⟩ := T.f_law_pick
  refine cal_ofU (k := 1) F T.g_law_pick scPick (fun _ _ _ _ ⟨_, _, _, _, e, _⟩ => by rw [e] <;> rfl) (fun _ _ _ _ _ _ us hl => match us, hl with | [_, _, _], _ => rfl) fun cdv A o s H E hr => ?_
  refine ⟨_, (pss_cons (ps_par (i := 4) (j := 5) (by rfl) scPick.nd rfl rfl (by decide) rfl rfl (pa_cons (pe_callTy (kc_list (K := K) rfl) (by rfl) T.m_list (by decide +kernel) (pa_cons (pv 1) pa_nil)) (pa_cons (pe_lst pa_nil) pa_nil)) (by rfl))
    (pss_cons (ps_for (passes_of rfl) rfl (pi_range1 (by rfl) T.m_range (pa_cons (pe_callB (call_min2 rfl) (by rfl) T.m_min (by decide +kernel) (pa_cons (pv 2) (pa_cons (pe_callB (kc_len (K := K) rfl) (by rfl) T.m_len PySem.boot_len (pa_cons (pv 4) pa_nil)) pa_nil))) pa_nil)) (pg_name (i := 3) scPick.nd rfl (by first | exact Or.inl rfl | exact Or.inr rfl)) (pss_one (ps_expr (ke_bm (K := K) rfl (pe_bm PySem.F.plainAttrs_list PySem.F.slot_list_append PySem.F.type_list_append mt_append (pv 5) (pa_cons (ke_bm (K := K) rfl (pe_bm PySem.F.plainAttrs_list PySem.F.slot_list_pop PySem.F.type_list_pop mt_popAt (pv 4) (pa_cons (pe_cal C_law_take hr (pa_cons (pv 0) (pa_cons (pe_callB (kc_len (K := K) rfl) (by rfl) T.m_len PySem.boot_len (pa_cons (pv 4) pa_nil)) pa_nil))) pa_nil))) pa_nil))))))
    (pss_one (ps_ret (pv 5))))), ?_⟩
  intro H u n m B vs Ps P0 cx hp ⟨xs, Q, many, hQ, hP, hx, hmany, hn, hm, hP0⟩ D q
  subst hP hm hP0
  obtain ⟨pv, mv, rfl, h0, h1⟩ := two_at hp
  obtain rfl := dd_int h1
  have t0 : At (wu u).S (wu u) n B H B H := At.start cx
  refine q_parOwn t0 (ev_var (i := 1) rfl h0) hQ fun p f rv B1 H1 t1 s1 hpS hp0 hfS hf0 hrv => ?_
  have hlen : rv.length = xs.length := by rw [ps_len hrv, List.length_map]
  have hj : (if (rv.length : Int) < (many : Int) then (rv.length : Int) else (many : Int)) = ((min many xs.length : Nat) : Int) := by
    rw [hlen]
    split <;> omega
  refine q_for (Y := fun i : Nat => dI K (i : Int)) (xs := List.range (min many xs.length)) (fun i Bs w2 k σ B => ∃ (fs rs : List Str) (rv fv : List V) (x3 : Option V), w2 = wl (wl (wu u) p (.lst rv)) f (.lst fv) ∧ k = n + i ∧ (fs ++ rs).Perm xs ∧ fs.length = i ∧ PsAt rv (rs.map (dS K)) B ∧ PsAt fv (fs.map (dS K)) B ∧ σ = [some (.ref u), some pv, some (.int (many : Int)), x3, some (.ref p), some (.ref f)]) t1
    (es_rng (K := K) (ea_cons ((ev_cb (ea_cons (ev_var (i := 2) rfl (Dp.int (many : Int))) (ea_cons (ev_wl hfS (ev_lenW (i := 4) rfl)) ea_nil)) rc_min2).to (congrArg (dI K) hj)) ea_nil) (by omega)) ?_ ?_ ?_
  · intro B2 s2
    exact ⟨[], xs, rv, [], _, rfl, rfl, .refl _, rfl, psAt_same s2 hrv, .nil, rfl⟩
  · rintro i x v Bs w2 k σ' B2 B3 H3 hx3 sb sbs ⟨fs, rs, rv2, fv, x3, rfl, rfl, hperm, hfl, hrv2, hfv, rfl⟩ t2 s2 hv
    have hi : i < min many xs.length := by
      have z := (List.getElem?_eq_some_iff.mp hx3).1
      rwa [List.length_range] at z
    have hrl : rs.length = xs.length - i := by
      have z := hperm.length_eq
      rw [List.length_append] at z
      omega
    have hrvl : rv2.length = rs.length := by rw [ps_len hrv2, List.length_map]
    have hfS2 : ¬ (wl (wu u) p (.lst rv2)).S f := hfS
    refine ⟨.ref f, rfl, .inl ⟨rfl, _, sl_of t2.here⟩, .ref p, rfl, .inl ⟨rfl, _, sl_of t2.c.wd.1.2⟩, ?_⟩
    refine t2.use1 (m := n + (i + 1)) (ev_fnU (G := GTake K) (u := u) (w := wl (wl (wu u) p (.lst rv2)) f (.lst fv)) (n := n + i) (m := n + i) (inc_wl (inc_wl inc_refl hpS) hfS2) (ea_cons (ev_var (i := 0) (P := VV (.ref u)) rfl rfl) (ea_cons (ev_wl hfS2 (ev_lenW (K := K) (i := 4) rfl)) ea_nil)) ⟨rv2.length, rfl, by omega, by omega, by omega, rfl, rfl⟩) fun y B4 H4 t4 s4 hy => ?_
    obtain ⟨z, hz, hy⟩ := hy
    obtain rfl := dd_int hy
    have hzr : z < rs.length := by omega
    refine ⟨p, rv2, (z : Int), z, rv2[z], rfl, rfl, t4.c.wd.1.2, by omega, by omega, ?_, List.getElem?_eq_getElem hz, ?_⟩
    · rw [seqIndex_of (by omega) (by omega)] <;> rfl
    have t5 := (t4.swap.set (o' := .lst (rv2.eraseIdx z)) (by
      rintro (e | e)
      · exact hpS e
      · exact hfS (.inr e.symm)) hp0).swap
    have hfl2 : fv.length = i := by rw [ps_len hfv, List.length_map, hfl]
    refine ⟨f, fv, rv2[z], rfl, rfl, t5.here, sz_lt (by omega), ?_⟩
    have t6 := t5.set (o' := .lst (fv ++ [rv2[z]])) hfS hf0
    refine ⟨_, _, B4, t6, (sbs.trans s2).trans s4, fs ++ [rs[z]], rs.eraseIdx z, rv2.eraseIdx z, fv ++ [rv2[z]], _, rfl, rfl, ?_, ?_, ?_, ?_, rfl⟩
    · rw [List.append_assoc]
      exact ((perm_erase hzr).append_left fs).trans hperm
    · rw [List.length_append, hfl] <;> rfl
    · have e := psAt_same (s2.trans s4) hrv2
      rw [List.eraseIdx_eq_take_drop_succ, List.eraseIdx_eq_take_drop_succ, List.map_append, List.map_take, List.map_drop]
      exact ps_app (ps_take e z) (ps_drop e (z + 1))
    · rw [List.map_append]
      refine ps_snoc (psAt_same (s2.trans s4) hfv) ?_
      obtain ⟨P, hP, hp⟩ := ps_get (psAt_same (s2.trans s4) hrv2) (List.getElem?_eq_getElem hz)
      rw [List.getElem?_map, List.getElem?_eq_getElem hzr] at hP
      cases hP
      exact hp
  · rintro Bs w2 k σ' B2 H2 sb sbs t2 ⟨fs, rs, rv2, fv, x3, rfl, rfl, hperm, hfl, hrv2, hfv, rfl⟩
    rw [List.length_range] at hfl t2
    refine ⟨.ref f, rfl, ?_⟩
    refine q (.ref f) _ H2 (((t2.less hfS hf0).drop).le (by omega)) ⟨fs, ⟨hfl, rs, hperm⟩, f, fv, rfl, sl_of upd_same, ?_⟩
    exact psAt_same (same_new t2.outB) hfv
end
end Pk


set_option Elab.async false
set_option linter.all false
set_option maxRecDepth 100000
set_option maxHeartbeats 4000000
/-! Pk17: comprehensions that draw; one of several things. -/
namespace Pk
open PySem PySem.Spec PyProof.Rows L2 PkH
section
variable {w : Wd} {n m c : Nat} {K : PySem.W.Frag} {σ : L2.St} {B : Hp} {α : Type} {xs : List α} {Y : α → Pr} {wi : TI} {g : TG} {tt : TT} {te : TE} {ws : List Nat}
theorem ev_lcB (p : α → Bool) (e : α → Pr) (hs : EvS w n m wi σ B xs Y) (hlen : xs.length ≤ 90000)
    (ht : ∀ x v B1 l, l + c ≤ m + xs.length * c → x ∈ xs → Same B B1 → (Y x).p v B1 → ∃ σ2, TgAt g v (wipe σ ws) σ2 B1 ∧ wipe σ2 ws = wipe σ ws ∧ EvT w l l tt σ2 B1 (p x) ∧ (p x = true → Ev w l (l + c) te σ2 B1 (e x))) :
    Ev w n (m + xs.length * c) (tLc wi g tt te ws) σ B (LoP K ((xs.filter p).map e)) := fun B1 s1 H c1 Q q =>
  hs B1 s1 H c1 _ fun J B2 H2 g2 c2 wk D hD => by
    have hDS : ¬ w.S D := c2.notS hD
    refine ⟨fun i k H' => k = xs.length - i ∧ i ≤ xs.length ∧ ∃ Bi ys, Gr w.S B2 H2 Bi H' ∧ Ctx w (m + i * c) Bi H' ∧ H' D = some (.lst ys) ∧ Bi D = none ∧ PsAt ys (((xs.take i).filter p).map e) Bi, ⟨xs.length, by simp, Nat.zero_le _, B2, [], Gr.refl.mut hD, ?_, upd_same, c2.sub.free hD, .nil⟩, ?_⟩
    · rw [Nat.zero_mul, Nat.add_zero]
      exact c2.mut (c2.sub.free hD) hDS
    rintro i k H' ⟨rfl, hi, Bi, ys, gi, ci, hl, hb, hp⟩
    by_cases hlt : i < xs.length
    · refine .inr ⟨wk.go i _ Bi H' gi.ex ci hlt, fun H'' => i + 1 ≤ xs.length ∧ ∃ Bj zs, Gr w.S B2 H2 Bj H'' ∧ Ctx w (m + (i + 1) * c) Bj H'' ∧ H'' D = some (.lst zs) ∧ Bj D = none ∧ PsAt zs (((xs.take (i + 1)).filter p).map e) Bj, fun H'' h => ⟨xs.length - (i + 1), by omega, rfl, h⟩, fun v H3 hy => ?_⟩
      obtain ⟨x, B3, ex, g3, c3, py⟩ := wk.yld i _ Bi H' v H3 gi.ex ci hlt hy
      have hl3 : H3 D = some (.lst ys) := g3.keep D _ hDS hl
      have hb3 : B3 D = none := g3.out hb (by rw [hl]; exact Option.some_ne_none _)
      have g23 := gi.trans g3
      obtain ⟨σ2, t1, t2, t3, t4⟩ := ht x v B3 (m + i * c) (by
        have z := Nat.mul_le_mul_right c (Nat.succ_le_of_lt hlt)
        rw [Nat.succ_mul] at z
        omega) (List.mem_of_getElem? ex) ((s1.trans g2.ex).trans g23.ex) py
      refine t1 H3 _ c3.sub ⟨t2, ?_⟩
      refine t3 B3 (Same.refl _) H3 c3 _ fun b B4 H4 g4 c4 hb4 => ?_
      subst hb4
      have hl4 : H4 D = some (.lst ys) := g4.keep D _ hDS hl3
      have hn4 : B4 D = none := g4.out hb3 (by rw [hl3]; exact Option.some_ne_none _)
      have et : xs.take (i + 1) = xs.take i ++ [x] := take_next ex
      have ems : m + (i + 1) * c = m + i * c + c := by rw [Nat.succ_mul, Nat.add_assoc]
      cases hpx : p x with
      | false =>
        refine iteF ⟨hlt, B4, ys, g23.trans g4, ?_, hl4, hn4, ?_⟩
        · rw [ems]
          exact c4.le (Nat.le_add_right _ _)
        · rw [et, List.filter_append, List.filter_cons, hpx]
          simp only [Bool.false_eq_true, if_false, List.filter_nil, List.append_nil]
          exact psAt_same (g3.ex.trans g4.ex) hp
      | true =>
        refine iteT ?_
        refine t4 hpx B4 g4.ex H4 c4 _ fun y B5 H5 g5 c5 hy5 => ⟨ys, g5.keep D _ hDS hl4, ?_, hlt, B5, ys ++ [y], ?_, ?_, upd_same, ?_, ?_⟩
        · have h1 := ps_len hp
          have h2 := List.length_filter_le p (xs.take i)
          rw [List.length_map] at h1
          rw [List.length_take] at h2
          exact sz_lt (by omega)
        · exact ((g23.trans g4).trans g5).mut hD
        · rw [ems]
          exact c5.mut (g5.out hn4 (by rw [hl4]; exact Option.some_ne_none _)) hDS
        · exact g5.out hn4 (by rw [hl4]; exact Option.some_ne_none _)
        · rw [et, List.filter_append, List.filter_cons, hpx]
          simp only [if_true, List.filter_nil, List.map_append, List.map_cons, List.map_nil]
          exact ps_snoc (psAt_same ((g3.ex.trans g4.ex).trans g5.ex) hp) hy5
    · have ei : i = xs.length := by omega
      subst ei
      refine .inl ⟨wk.stop _ Bi H' gi.ex ci, ?_⟩
      rw [List.take_length] at hp
      exact q _ (upd Bi D (.lst ys)) H' (g2.trans (gi.put hb hD)) (ci.put hl hDS) ⟨D, ys, rfl, upd_same, psAt_same (same_new hb) hp⟩
theorem ev_lcB1 (e : α → Pr) (hs : EvS w n m wi σ B xs Y) (hlen : xs.length ≤ 90000)
    (ht : ∀ x v B1 l, l + c ≤ m + xs.length * c → x ∈ xs → Same B B1 → (Y x).p v B1 → ∃ σ2, TgAt g v (wipe σ ws) σ2 B1 ∧ wipe σ2 ws = wipe σ ws ∧ Ev w l (l + c) te σ2 B1 (e x)) :
    Ev w n (m + xs.length * c) (tLc wi g tYes te ws) σ B (LoP K (xs.map e)) := by
  have h := ev_lcB (K := K) (te := te) (ws := ws) (g := g) (tt := tYes) (c := c) (fun _ => true) e hs hlen fun x v B1 l hb hx s1 hy => by
    obtain ⟨σ2, h1, h2, h3⟩ := ht x v B1 l hb hx s1 hy
    exact ⟨σ2, h1, h2, et_yes, fun _ => h3⟩
  rw [filter_true] at h
  exact h
end
section
variable {w : Wd} {n m l : Nat} {K : PySem.W.Frag} {σ : L2.St} {B : Hp} {P P1 : Pr} {ta : TA} {Ps : List Pr} {te : TE} {α : Type} {c : α → Prop} {f g : α → Pr}
theorem ev_open {F : TA → TE} (hF : ∀ ta σ H Q, F ta σ H Q = ta σ H fun vs H1 => F (fun _ H2 Q2 => Q2 vs H2) σ H1 Q) (ha : EvA w n m ta σ B Ps) (h : ∀ vs B1, Same B B1 → PsAt vs Ps B1 → Ev w m l (F (fun _ H2 Q2 => Q2 vs H2)) σ B1 P) : Ev w n l (F ta) σ B P := fun B1 s1 H c Q q => by
  rw [hF]
  exact ha B1 s1 H c _ fun vs B2 H2 g2 c2 hv => h vs B2 (s1.trans g2.ex) hv B2 (Same.refl B2) H2 c2 Q fun v B3 H3 g3 c3 p => q v B3 H3 (g2.trans g3) c3 p
theorem ea_val {vs : List V} (h : PsAt vs Ps B) : EvA w n n (fun _ H2 Q2 => Q2 vs H2) σ B Ps := fun B1 s1 => Go.one (psAt_same s1 h)
theorem rc_ex {r : List V → Hp → VK → Prop} (h : ∀ x, c x → RC r [f x] (g x)) : RC r [ExP c f] (ExP c g) := fun w n B vs hv => by
  cases hv with
  | cons h1 t =>
    cases t
    obtain ⟨x, hx, hp⟩ := h1
    exact (h x hx w n B _ (.cons hp .nil)).imp fun v B' _ q => ⟨x, hx, q⟩
theorem ev_exi {c' : α → Prop} (h : Ev w n m te σ B (ExP c f)) (hi : ∀ x, c x → c' x ∧ ∀ v B', (f x).p v B' → (g x).p v B') : Ev w n m te σ B (ExP c' g) := h.imp fun v B' ⟨x, hx, q⟩ => ⟨x, (hi x hx).1, (hi x hx).2 v B' q⟩
/-- each of one of several texts -/
theorem ex_all {β : Type} {c : Str → Prop} : ∀ {xs : List β} {vs : List V}, PsAt vs (xs.map fun _ => ExP c (dS K)) B → ∃ ks : List Str, ks.length = xs.length ∧ (∀ k ∈ ks, c k) ∧ PsAt vs (ks.map (dS K)) B
  | [], _, h => by
    cases h
    exact ⟨[], rfl, ⟨fun _ z => (List.not_mem_nil z).elim, .nil⟩⟩
  | x :: xs, _, h => by
    cases h with
    | cons h1 h2 =>
      obtain ⟨k, hk, hp⟩ := h1
      obtain ⟨ks, e, ha, hq⟩ := ex_all h2
      exact ⟨k :: ks, by rw [List.length_cons, List.length_cons, e], fun y hy => by
        rcases List.mem_cons.mp hy with rfl | hy
        · exact hk
        · exact ha y hy, .cons hp hq⟩
end
end Pk


set_option Elab.async false
set_option linter.all false
set_option maxRecDepth 100000
set_option maxHeartbeats 4000000
/-! PkF16: _law_tags, _law_lot, _law_line. -/
namespace Pk
open PySem PySem.Spec PyProof.Rows L2 PkH PySem.W
def tagPool : List Str := ["a", "b", "c", "ab", "aa", "host", "minute", "zone", "z", "zzzzzzzz", "ba", "q"]
def GTags (K : PySem.W.Frag) : Nat → Nat → List Pr → Pr → Prop := fun n m Ps P => ∃ many : Nat, Ps = [dI K (many : Int)] ∧ many ≤ 1000 ∧ n + many ≤ 1000000 ∧ m = n + many ∧ P = ExP (picked tagPool many) fun fs => DD K (eTS (sortS fs))
def lotOf (ts lot : List Str) : Prop := ∃ k fs, 1 ≤ k ∧ picked ts k fs ∧ lot = sortS fs
def GLot (K : PySem.W.Frag) : Nat → Nat → List Pr → Pr → Prop := fun n m Ps P => ∃ ts : List Str, Ps = [TuP K (ts.map (dS K))] ∧ 1 ≤ ts.length ∧ ts.length < 64 ∧ n + 100 ≤ 1000000 ∧ m = n + 100 ∧ P = ExP (lotOf ts) fun lot => DD K (eTS lot)
def isK (k : Str) : Prop := k = "sum" ∨ k = "max"
def lineOf (ts : List Str) (l : List (Str × Str)) : Prop := (∀ p ∈ l, isK p.1) ∧ (l.map (·.2)).Perm ts
def GLine (K : PySem.W.Frag) : Nat → Nat → List Pr → Pr → Prop := fun n m Ps P => ∃ ts : List Str, Ps = [TuP K (ts.map (dS K))] ∧ ts.length < 64 ∧ n + 200 ≤ 1000000 ∧ m = n + 200 ∧ P = ExP (lineOf ts) fun l => DD K (eLine l)
theorem picked_len {xs fs : List Str} {many : Nat} (h : picked xs many fs) : fs.length ≤ xs.length := by
  have e := h.1
  omega
theorem picked_all {xs fs : List Str} (h : picked xs xs.length fs) : fs.Perm xs := by
  obtain ⟨e, rs, p⟩ := h
  have z := p.length_eq
  rw [List.length_append, e, Nat.min_self] at z
  obtain rfl : rs = [] := List.eq_nil_of_length_eq_zero (by omega)
  rwa [List.append_nil] at p
theorem scTags : FnScope ["_law_urn", "_law_many_so", "_law_pool"] ["_law_urn", "_law_many_so"] (defScope (top 57)) := ⟨rfl, rfl, rfl, by decide +kernel, rfl, by decide +kernel, by decide +kernel⟩
theorem scLot : FnScope ["_law_urn", "_law_tags_here"] ["_law_urn", "_law_tags_here"] (defScope (top 67)) := ⟨rfl, rfl, rfl, by decide +kernel, rfl, by decide +kernel, by decide +kernel⟩
theorem scLine : FnScope ["_law_urn", "_law_tags_here", "_law_way_so", "_law_kinds_so", "_law_own", "_law_kind_so"] ["_law_urn", "_law_tags_here"] (defScope (top 58)) := ⟨rfl, rfl, rfl, by decide +kernel, rfl, by decide +kernel, by decide +kernel⟩
section
variable {P : Program} {w : World} {K : PySem.W.Frag} {mg : Str → Option Value} {base : Heap}
theorem calTags (T : Txt K mg) : Cal P w K mg base 3 "_law_tags" ["_law_urn", "_law_many_so"] (spU (GTags K)) := by
  have C_law_pick := calPick (P := P) (w := w) (base := base) T
  obtain ⟨fd, F⟩ := T.f_law_tags
  refine cal_ofU (k := 2) F T.g_law_tags scTags (fun _ _ _ _ ⟨_, e, _⟩ => by rw [e] <;> rfl) (fun _ _ _ _ _ _ us hl => match us, hl with | [_, _], _ => rfl) fun cdv A o s H E hr => ?_
  refine ⟨_, (pss_cons (ps_set (i := 2) scTags.nd rfl (by first | exact Or.inl rfl | exact Or.inr rfl) (pe_lst (pa_cons pe_str (pa_cons pe_str (pa_cons pe_str (pa_cons pe_str (pa_cons pe_str (pa_cons pe_str (pa_cons pe_str (pa_cons pe_str (pa_cons pe_str (pa_cons pe_str (pa_cons pe_str (pa_cons pe_str pa_nil))))))))))))))
    (pss_one (ps_ret (pe_callTy (kc_tup (K := K) rfl) (by rfl) T.m_tuple (by decide +kernel) (pa_cons (pe_callB (kc_sortS (K := K) rfl) (by rfl) T.m_sorted (by decide +kernel) (pa_cons (pe_cal C_law_pick hr (pa_cons (pv 0) (pa_cons (pv 2) (pa_cons (pv 1) pa_nil)))) pa_nil)) pa_nil))))), ?_⟩
  intro H u n m B vs Ps P0 cx hp ⟨many, hP, h1, hn, hm, hP0⟩ D q
  subst hP hm hP0
  obtain ⟨mv, rfl, h0⟩ := one_of hp
  have t0 : At (wu u).S (wu u) n B H B H := At.start cx
  refine q_asg (m := n) (P := LiP K (tagPool.map (dS K))) t0 (ev_lst (K := K) (ea_cons ev_str (ea_cons ev_str (ea_cons ev_str (ea_cons ev_str (ea_cons ev_str (ea_cons ev_str (ea_cons ev_str (ea_cons ev_str (ea_cons ev_str (ea_cons ev_str (ea_cons ev_str (ea_cons ev_str ea_nil))))))))))))) fun v B1 H1 t1 s1 hv => ?_
  refine s_ret (m := n + many) t1 (ev_cb (ea_cons ((ev_cb (ea_cons (ev_fnU (u := u) inc_refl (ea_cons (ev_var (i := 0) (P := VV (.ref u)) rfl rfl) (ea_cons (ev_var (i := 2) rfl hv) (ea_cons (ev_var (i := 1) rfl (dd_up h0 s1)) ea_nil))) ⟨tagPool, _, many, .inl rfl, rfl, by decide, h1, hn, rfl, rfl⟩) ea_nil) (rc_ex (g := fun fs => LoP K ((sortS fs).map (dS K))) fun fs hfs => rc_sortS (by
    have z := picked_len hfs
    have z2 : tagPool.length = 12 := rfl
    omega))).imp fun v B' (h : (ExP _ _).p v B') => show (ExP (picked tagPool many) fun fs => LiP K ((sortS fs).map (dS K))).p v B' from h.elim fun fs hf => ⟨fs, hf.1, lo_li hf.2⟩) ea_nil) (rc_ex (g := fun fs => TuP K ((sortS fs).map (dS K))) fun fs _ => rc_tupL)) fun v B' H' t s hv => q v B' H' t (hv.elim fun fs hf => ⟨fs, hf.1, map_tt hf.2⟩)
theorem calLot (T : Txt K mg) : Cal P w K mg base 3 "_law_lot" ["_law_urn", "_law_tags_here"] (spU (GLot K)) := by
  have C_law_take := calTake (P := P) (w := w) (base := base) T
  have C_law_take := C_law_take.mono (k := 2) (by decide)
  have C_law_pick := calPick (P := P) (w := w) (base := base) T
  obtain ⟨fd, F⟩ := T.f_law_lot
  refine cal_ofU (k := 2) F T.g_law_lot scLot (fun _ _ _ _ ⟨_, e, _⟩ => by rw [e] <;> rfl) (fun _ _ _ _ _ _ us hl => match us, hl with | [_, _], _ => rfl) fun cdv A o s H E hr => ?_
  refine ⟨_, (pss_one (ps_ret (pe_callTy (kc_tup (K := K) rfl) (by rfl) T.m_tuple (by decide +kernel) (pa_cons (pe_callB (kc_sortS (K := K) rfl) (by rfl) T.m_sorted (by decide +kernel) (pa_cons (pe_cal C_law_pick hr (pa_cons (pv 0) (pa_cons (pv 1) (pa_cons (pe_op op_add pe_int (pe_cal C_law_take hr (pa_cons (pv 0) (pa_cons (pe_callB (kc_len (K := K) rfl) (by rfl) T.m_len PySem.boot_len (pa_cons (pv 1) pa_nil)) pa_nil)))) pa_nil)))) pa_nil)) pa_nil)))), ?_⟩
  intro H u n m B vs Ps P0 cx hp ⟨ts, hP, h1, h2, hn, hm, hP0⟩ D q
  subst hP hm hP0
  obtain ⟨tv, rfl, h0⟩ := one_of hp
  have t0 : At (wu u).S (wu u) n B H B H := At.start cx
  have E1 : Ev (wu u) n (n + 100) (tCall (spU (GPick K)) [] E0 (tCons (tVar 0) (tCons (tVar 1) (tCons (tOp (rI0 fun i j => .int (i + j)) (tC (.int 1)) (tCall (spU (GTake K)) [] E0 (tCons (tVar 0) (tCons (tCB (fun xs H Q => ∃ p ys, xs = [V.ref p] ∧ (SqL K H p ys ∨ SqT K H p ys) ∧ Q (.int ys.length) H) (tCons (tVar 1) tNil)) tNil)))) tNil)))) [some (.ref u), some tv] B (ExP (fun fs => ∃ k, 1 ≤ k ∧ picked ts k fs) fun fs => LiP K (fs.map (dS K))) := by
    refine ev_open (m := n + 1) (Ps := [VV (.ref u), TuP K (ts.map (dS K)), ExP (fun i : Nat => i < ts.length) fun i : Nat => dI K ((1 + i : Nat) : Int)]) (fun _ _ _ _ => rfl) (ea_cons (ev_var (i := 0) rfl rfl) (ea_cons (ev_var (i := 1) rfl h0) (ea_cons (ev_op ev_int (ev_fnU (u := u) (P := below K ts.length) inc_refl (ea_cons (ev_var (i := 0) (P := VV (.ref u)) rfl rfl) (ea_cons (ev_cb (ea_cons (ev_var (i := 1) rfl h0) ea_nil) rc_lenT) ea_nil)) ⟨ts.length, by rw [List.length_map], h1, by omega, by omega, rfl, rfl⟩) fun w n B x y hx ⟨i, hi, hy⟩ => (rv_I0i (g := fun i j => i + j) w n B x y hx hy).imp fun v B' _ q => ⟨i, hi, by
      show (dI K ((1 + i : Nat) : Int)).p v B'
      rw [show ((1 + i : Nat) : Int) = 1 + (i : Int) by omega]
      exact q⟩) ea_nil))) fun vs B1 s1 hvs => ?_
    cases hvs with
    | cons g1 hvs =>
    cases hvs with
    | cons g2 hvs =>
    cases hvs with
    | cons g3 hvs =>
    cases hvs
    obtain ⟨i, hi, g3⟩ := g3
    exact ((ev_fnU (u := u) (G := GPick K) (l := n + 1 + (1 + i)) inc_refl (ea_val (.cons g1 (.cons g2 (.cons g3 .nil)))) ⟨ts, _, 1 + i, .inr rfl, rfl, by omega, by omega, by omega, rfl, rfl⟩).imp (P := ExP (picked ts (1 + i)) fun fs => LiP K (fs.map (dS K))) (P' := ExP (fun fs => ∃ k, 1 ≤ k ∧ picked ts k fs) fun fs => LiP K (fs.map (dS K))) fun v B' h => h.elim fun fs hf => ⟨fs, ⟨1 + i, by omega, hf.1⟩, hf.2⟩).le (by omega)
  refine s_ret (m := n + 100) (P := ExP (fun fs => ∃ k, 1 ≤ k ∧ picked ts k fs) fun fs => TuP K ((sortS fs).map (dS K))) t0 (ev_cb (ea_cons (Ev.imp (P := ExP (fun fs => ∃ k, 1 ≤ k ∧ picked ts k fs) fun fs => LoP K ((sortS fs).map (dS K))) (P' := ExP (fun fs => ∃ k, 1 ≤ k ∧ picked ts k fs) fun fs => LiP K ((sortS fs).map (dS K))) (ev_cb (ea_cons E1 ea_nil) (rc_ex fun fs hfs => rc_sortS (by
    obtain ⟨k, _, hfs⟩ := hfs
    have z := picked_len hfs
    omega))) fun v B' h => h.elim fun fs hf => ⟨fs, hf.1, lo_li hf.2⟩) ea_nil) (rc_ex fun fs _ => rc_tupL)) fun v B' H' t s hv => q v B' H' t (hv.elim fun fs hf => hf.1.elim fun k hk => ⟨sortS fs, ⟨k, fs, hk.1, hk.2, rfl⟩, map_tt hf.2⟩)
theorem calLine (T : Txt K mg) : Cal P w K mg base 3 "_law_line" ["_law_urn", "_law_tags_here"] (spU (GLine K)) := by
  have C_law_take := calTake (P := P) (w := w) (base := base) T
  have C_law_take := C_law_take.mono (k := 2) (by decide)
  have C_law_of := calOf (P := P) (w := w) (base := base) T
  have C_law_pick := calPick (P := P) (w := w) (base := base) T
  obtain ⟨fd, F⟩ := T.f_law_line
  refine cal_ofU (k := 2) F T.g_law_line scLine (fun _ _ _ _ ⟨_, e, _⟩ => by rw [e] <;> rfl) (fun _ _ _ _ _ _ us hl => match us, hl with | [_, _], _ => rfl) fun cdv A o s H E hr => ?_
  refine ⟨_, (pss_cons (ps_set (i := 2) scLine.nd rfl (by first | exact Or.inl rfl | exact Or.inr rfl) (pe_cal C_law_take hr (pa_cons (pv 0) (pa_cons pe_int pa_nil))))
    (pss_cons (ps_setLc (i := 3) (own := [("_law_own", 4)]) (by rfl) scLine.nd rfl rfl (sw_true rfl rfl rfl (by decide +kernel)) (kp_tup (K := K) rfl (pv 1)) (blkOk_by (by kernel_rfl)) (fun _ _ _ _ _ => (pg_name (i := 4) scLine.nd rfl (by first | exact Or.inl rfl | exact Or.inr rfl))) (fun _ _ _ _ _ => pts_nil) (fun _ _ _ _ _ => (pe_ifExp (pt_cmpR op_gt (pv 2) pe_int (nomark _)) (pe_cal C_law_of hr (pa_cons (pv 0) (pa_cons (pe_lst (pa_cons pe_str (pa_cons pe_str pa_nil))) pa_nil))) (pe_ix (kx_list (K := K) rfl) (pe_lst (pa_cons pe_str (pa_cons pe_str pa_nil))) (pv 2) (fun _ _ => rfl)))))
    (pss_one (ps_ret (pe_callTy (kc_tup (K := K) rfl) (by rfl) T.m_tuple (by decide +kernel) (pa_cons (pe_lc (own := [("_law_kind_so", 5), ("_law_own", 4)]) (by rfl) scLine.nd (kp_zip (K := K) rfl (pi_zip (by rfl) T.m_zip (pa_cons (pv 3) (pa_cons (pe_cal C_law_pick hr (pa_cons (pv 0) (pa_cons (pv 1) (pa_cons (pe_callB (kc_len (K := K) rfl) (by rfl) T.m_len PySem.boot_len (pa_cons (pv 1) pa_nil)) pa_nil)))) pa_nil)))) (blkOk_by (by kernel_rfl)) (fun _ _ _ _ _ => (kg_tup (K := K) (n := 2) rfl rfl (pgs_cons (pg_name (i := 5) scLine.nd rfl (by first | exact Or.inl rfl | exact Or.inr rfl)) (pgs_cons (pg_name (i := 4) scLine.nd rfl (by first | exact Or.inl rfl | exact Or.inr rfl)) pgs_nil)))) (fun _ _ _ _ _ => pts_nil) (fun _ _ _ _ _ => (pe_tup (pa_cons (pv 5) (pa_cons (pv 4) pa_nil))))) pa_nil)))))), ?_⟩
  intro H u n m B vs Ps P0 cx hp ⟨ts, hP, h2, hn, hm, hP0⟩ D q
  subst hP hm hP0
  obtain ⟨tv, rfl, h0⟩ := one_of hp
  have t0 : At (wu u).S (wu u) n B H B H := At.start cx
  refine q_asg (m := n + 1) (P := below K 5) t0 (ev_fnU (u := u) inc_refl (ea_cons (ev_var (i := 0) (P := VV (.ref u)) rfl rfl) (ea_cons (ev_int (K := K)) ea_nil)) ⟨5, rfl, by decide, by decide, by omega, rfl, rfl⟩) fun wv B1 H1 t1 s1 hw => ?_
  obtain ⟨i, hi, hw⟩ := hw
  have h0' : (TuP K (ts.map (dS K))).p tv B1 := Pr.up h0 s1
  refine q_asg (m := n + 1 + ts.length * 1) (P := LoP K (ts.map fun _ => ExP isK (dS K))) t1 (ev_lcB1 (K := K) (c := 1) (xs := ts) (fun _ => ExP isK (dS K)) (es_tup (ev_var (i := 1) rfl h0')).s (by omega) ?turn) fun kv B2 H2 t2 s2 hk => ?_
  case turn =>
    intro x v B3 l hb hx s3 hv
    refine ⟨_, tg_name, rfl, ?_⟩
    refine ev_if (m := l) (b := decide (1 < (i : Int))) (et_test (K := K) (ev_op (ev_var (i := 2) rfl (dd_up hw s3)) ev_int rv_I0b)) (fun hb2 => ?_) fun hb2 => ?_
    · exact (ev_fnU (u := u) (G := GOf K) inc_refl (ea_cons (ev_var (i := 0) (P := VV (.ref u)) rfl rfl) (ea_cons (ev_lst (K := K) (ea_cons (ev_str (K := K)) (ea_cons (ev_str (K := K)) ea_nil))) ea_nil)) ⟨_, rfl, by (show 1 ≤ 2; decide), by (show 2 ≤ 1000000; decide), by omega, rfl, rfl⟩).imp fun v B' ⟨P, hP, hp⟩ => by
        rcases List.mem_cons.mp hP with rfl | hP
        · exact ⟨_, .inl rfl, hp⟩
        · rcases List.mem_cons.mp hP with rfl | hP
          · exact ⟨_, .inr rfl, hp⟩
          · cases hP
    · have hi2 : i = 0 ∨ i = 1 := by
        have z := of_decide_eq_false hb2
        omega
      refine Ev.le (m := l) ?_ (by omega)
      rcases hi2 with rfl | rfl
      · exact (ev_op (ev_lst (K := K) (ea_cons (ev_str (K := K)) (ea_cons (ev_str (K := K)) ea_nil))) (ev_var (i := 2) rfl (dd_up hw s3)) (rv_ixL (P := dS K "sum") rfl)).imp fun v B' hp => ⟨_, .inl rfl, hp⟩
      · exact (ev_op (ev_lst (K := K) (ea_cons (ev_str (K := K)) (ea_cons (ev_str (K := K)) ea_nil))) (ev_var (i := 2) rfl (dd_up hw s3)) (rv_ixL (P := dS K "max") rfl)).imp fun v B' hp => ⟨_, .inr rfl, hp⟩
  obtain ⟨ka, kvs, rfl, hka, hks⟩ := hk
  obtain ⟨ks, hkl, hkk, hks⟩ := ex_all hks
  have hkv : (LiP K (ks.map (dS K))).p (.ref ka) B2 := ⟨ka, kvs, rfl, sl_of hka, hks⟩
  have h02 : (TuP K (ts.map (dS K))).p tv B2 := Pr.up h0' s2
  refine s_ret (m := n + 1 + ts.length * 1 + ts.length) (P := ExP (lineOf ts) fun l => TuP K (l.map fun p => DD K (eSS p))) t2 (ev_cb (ea_cons (Ev.imp (P := ExP (lineOf ts) fun l => LoP K (l.map fun p => DD K (eSS p))) (P' := ExP (lineOf ts) fun l => LiP K (l.map fun p => DD K (eSS p))) ?lc fun v B' h => h.elim fun fs hf => ⟨fs, hf.1, lo_li hf.2⟩) ea_nil) (rc_ex fun fs _ => rc_tupL)) fun v B' H' t s hv => q v B' H' (t.le (by omega)) (hv.elim fun l hf => ⟨l, hf.1, map_tt hf.2⟩)
  case lc =>
    refine ev_open (F := fun ta => tLc (iZip K ta) _ _ _ _) (m := n + 1 + ts.length * 1 + ts.length) (Ps := [LiP K (ks.map (dS K)), ExP (picked ts ts.length) fun fs => LiP K (fs.map (dS K))]) (fun _ _ _ _ => rfl) (ea_cons (ev_var (i := 3) rfl hkv) (ea_cons (ev_fnU (u := u) (G := GPick K) inc_refl (ea_cons (ev_var (i := 0) (P := VV (.ref u)) rfl rfl) (ea_cons (ev_var (i := 1) rfl h02) (ea_cons (ev_cb (ea_cons (ev_var (i := 1) rfl h02) ea_nil) rc_lenT) ea_nil))) ⟨ts, _, ts.length, .inr rfl, by rw [List.length_map], by omega, by omega, by omega, rfl, rfl⟩) ea_nil)) fun vs B3 s3 hvs => ?_
    cases hvs with
    | cons g1 hvs =>
    cases hvs with
    | cons g2 hvs =>
    cases hvs
    obtain ⟨fs, hfs, g2⟩ := g2
    have hperm := picked_all hfs
    have hfl := hperm.length_eq
    refine Ev.imp (P := LoP K ((ks.zip fs).map fun p => DD K (eSS p))) (Ev.le (m := n + 1 + ts.length * 1 + ts.length + (ks.zip fs).length * 0) (ev_lc1 (K := K) (c := 0) (xs := ks.zip fs) (fun p => DD K (eSS p)) (es_zip (Y := dS K) (Z := dS K) (ea_val (.cons g1 (.cons g2 .nil)))).s (by rw [List.length_zip]; omega) fun x v B4 l hx s4 hv => ?_) (by omega)) fun v B' hv => ⟨ks.zip fs, ⟨fun p hp => hkk _ (List.of_mem_zip hp).1, by
      rw [List.map_snd_zip (by omega)]
      exact hperm⟩, hv⟩
    obtain ⟨a, v1, v2, rfl, hT, e1, e2⟩ := two_of hv
    exact ⟨_, tg_two hT, rfl, (ev_tup (K := K) (ea_cons (ev_var rfl e1) (ea_cons (ev_var rfl e2) ea_nil))).imp fun _ _ z => tt_dd (ds := [.str x.1, .str x.2]) z⟩
end
end Pk


set_option Elab.async false
set_option linter.all false
set_option maxRecDepth 100000
set_option maxHeartbeats 4000000
/-! PkF17: _law_pairs. -/
namespace Pk
open PySem PySem.Spec PyProof.Rows L2 PkH PySem.W
section
variable {S0 : Addr → Prop} {w : Wd} {n m l : Nat} {K : PySem.W.Frag} {B0 H0 B H : Hp} {D : Ends} {σ : L2.St} {te : TE} {tt tu : TT} {ts tz : TS} {P : Pr} {Ps : List Pr} {ta : TA}
/-- x, y = [], e -/
theorem q_nilPar {i j : Nat} (t : At S0 w n B0 H0 B H) (h : ∀ a, ¬ w.S a → Ev (wl w a (.lst [])) n m te σ B P) (q : ∀ a v B' H', At S0 (wl w a (.lst [])) m B0 H0 B' H' → Same B B' → P.p v B' → ¬ w.S a → H0 a = none → tz D ((σ.set i (some (.ref a))).set j (some v)) H') :
    tSeq (tPar i j (tCons (tLst tNil) (tCons te tNil))) tz D σ H := by
  refine ⟨Nat.zero_le _, fun a ha => ?_⟩
  have t2 : At S0 (wl w a (.lst [])) n B0 H0 B (upd H a (.lst [])) := t.more ha
  exact t2.use1 (kk := fun vs H1 => ∃ v u, V.ref a :: vs = [v, u] ∧ tz D ((σ.set i (some v)).set j (some u)) H1) (h a (t.c.notS ha)) fun v B' H' t' s' hv => ⟨_, _, rfl, q a v B' H' t' s' hv (t.c.notS ha) (t.not0 ha)⟩
theorem q_open {F : TA → TS} (hF : ∀ ta D σ H, F ta D σ H = ta σ H fun vs H1 => F (fun _ H2 Q2 => Q2 vs H2) D σ H1) (t : At S0 w n B0 H0 B H) (ha : EvA w n m ta σ B Ps) (q : ∀ vs B' H', At S0 w m B0 H0 B' H' → Same B B' → PsAt vs Ps B' → F (fun _ H2 Q2 => Q2 vs H2) D σ H') : F ta D σ H := by
  rw [hF]
  exact t.use (Q := fun vs H1 => F (fun _ H2 Q2 => Q2 vs H2) D σ H1) (ha B (Same.refl B)) q
/-- a test of which one does not know the answer -/
def EvX (w : Wd) (n m : Nat) (tt : TT) (σ : L2.St) (B : Hp) : Prop := ∀ B1, Same B B1 → Go w n m (tt σ) B1 (fun _ _ => True)
theorem EvT.x {b : Bool} (h : EvT w n m tt σ B b) : EvX w n m tt σ B := fun B1 s1 => (h B1 s1).imp fun _ _ _ _ => True.intro
theorem ex_test (h : Ev w n m te σ B (ExP (fun _ => True) (dB K))) : EvX w n m (tTest te) σ B := fun B1 s1 =>
  Go.bind (f := fun x H' Q => ∃ k, x = V.bl k ∧ Q k H') (h B1 s1) fun x B2 s2 ⟨b, _, hx⟩ H c Q q => ⟨b, dd_bool hx, q b B2 H Gr.refl c True.intro⟩
theorem ex_and {a : Bool} (h1 : EvT w n m tt σ B a) (hm : m ≤ l) (h2 : a = true → EvX w m l tu σ B) : EvX w n l (tAnd tt tu) σ B := fun B1 s1 =>
  Go.bind (f := fun c H' Q => if c = true then tu σ H' Q else Q false H') (h1 B1 s1) fun c B2 s2 hc => by
    subst hc
    exact Go.ite (fun e => h2 e B2 (s1.trans s2)) fun e H cx Q q => q false B2 H Gr.refl (cx.le hm) True.intro
theorem set_same {j : Nat} {v : V} (h : σ[j]? = some (some v)) : σ.set j (some v) = σ := by
  refine List.ext_getElem? fun k => ?_
  rw [List.getElem?_set]
  split
  · rename_i e
    subst e
    rw [h]
    split
    · rfl
    · rename_i z
      rw [List.getElem?_eq_none (by omega)] at h
      cases h
  · rfl
/-- if ..: x = e, and x has its kind already -/
theorem q_maybe {j : Nat} {c : Str → Prop} {v0 : V} (t : At S0 w n B0 H0 B H) (h : EvX w n m tt σ B) (hm : m ≤ l) (he : ∀ B', Same B B' → Ev w m l te σ B' (ExP c (dS K))) (hj : σ[j]? = some (some v0)) (h0 : (ExP c (dS K)).p v0 B)
    (q : ∀ v B' H', At S0 w l B0 H0 B' H' → Same B B' → (ExP c (dS K)).p v B' → tz D (σ.set j (some v)) H') : tSeq (tIfS tt (tAsg te (gName j)) tNext) tz D σ H :=
  t.use (Q := fun c H1 => if c = true then tAsg te (gName j) { D with nx := tz D } σ H1 else tz D σ H1) (h B (Same.refl B)) fun c B' H' t' s' _ => by
    cases c with
    | true => exact s_asg (D := { D with nx := tz D }) t' (he B' s') fun v B2 H2 t2 s2 hv => q v B2 H2 t2 (s'.trans s2) hv
    | false =>
      have z := q v0 B' H' (t'.le hm) s' (Pr.up h0 s')
      rw [set_same hj] at z
      exact z
def rowsOf (line : List (Str × Str)) (many : Nat) (rows : List (List Str × Str)) : Prop := rows.length ≤ many ∧ ∀ r ∈ rows, isK r.2 ∧ lotOf (sortS (line.map (·.2))) r.1
def GPairs (K : PySem.W.Frag) : Nat → Nat → List Pr → Pr → Prop := fun n m Ps P => ∃ (line : List (Str × Str)) (many odd : Nat), Ps = [DD K (eLine line), dI K (many : Int), dI K (odd : Int)] ∧ 1 ≤ line.length ∧ line.length < 64 ∧ (∀ p ∈ line, isK p.1) ∧ many ≤ 60 ∧ odd ≤ 1000 ∧ n + 20000 ≤ 1000000 ∧ m = n + 20000 ∧ P = ExP (rowsOf line many) fun rows => TuP K (rows.map fun r => DD K (eRow r))
theorem lotOf_sub {ts lot : List Str} (h : lotOf ts lot) : ∀ x ∈ lot, x ∈ ts := by
  obtain ⟨k, fs, hk, ⟨e, rs, p⟩, rfl⟩ := h
  exact fun x hx => p.mem_iff.mp (List.mem_append.mpr (.inl ((sortS_perm fs).mem_iff.mp hx)))
theorem lotOf_ne {ts lot : List Str} (h : lotOf ts lot) (ht : 1 ≤ ts.length) : ∃ x, x ∈ lot := by
  obtain ⟨k, fs, hk, ⟨e, rs, p⟩, rfl⟩ := h
  cases fs with
  | nil =>
    rw [List.length_nil] at e
    omega
  | cons x xs => exact ⟨x, (sortS_perm _).mem_iff.mpr List.mem_cons_self⟩
theorem outer_isK {l : List (Str × Str)} (lot : List Str) (h : ∀ p ∈ l, isK p.1) : isK (outer l lot) := by
  unfold outer
  generalize e : (l.filter fun p => decide (p.2 ∈ lot)).map (·.1) = ks
  have hks : ∀ k ∈ ks, isK k := by
    intro k hk
    rw [← e] at hk
    obtain ⟨p, hp, rfl⟩ := List.mem_map.mp hk
    exact h p (List.mem_filter.mp hp).1
  cases ks with
  | nil => exact .inl rfl
  | cons x xs =>
    rw [List.getLastD_eq_getLast?, List.getLast?_eq_some_getLast (List.cons_ne_nil x xs)]
    exact hks _ (List.getLast_mem _)
end
theorem scPairs : FnScope ["_law_urn", "_law_line_so", "_law_many_so", "_law_odd_so", "_law_turn", "_law_found", "_law_tags_here", "_law_lot_so", "_law_kind_so", "_law_own"] ["_law_urn", "_law_line_so", "_law_many_so", "_law_odd_so"] (defScope (top 68)) := ⟨rfl, rfl, rfl, by decide +kernel, rfl, by decide +kernel, by decide +kernel⟩
section
variable {P : Program} {w : World} {K : PySem.W.Frag} {mg : Str → Option Value} {base : Heap}
theorem calPairs (T : Txt K mg) : Cal P w K mg base 4 "_law_pairs" ["_law_urn", "_law_line_so", "_law_many_so", "_law_odd_so"] (spU (GPairs K)) := by
  have C_law_take := (calTake (P := P) (w := w) (base := base) T).mono (k := 3) (by decide)
  have C_law_outer := (calOuter (P := P) (w := w) (base := base) T).mono (k := 3) (by decide)
  have C_law_lot := calLot (P := P) (w := w) (base := base) T
  obtain ⟨fd, F⟩ := T.f_law_pairs
  refine cal_ofU (k := 3) F T.g_law_pairs scPairs (fun _ _ _ _ ⟨_, _, _, e, _⟩ => by rw [e] <;> rfl) (fun _ _ _ _ _ _ us hl => match us, hl with | [_, _, _, _], _ => rfl) fun cdv A o s H E hr => ?_
  refine ⟨_, (pss_cons (ps_par (i := 5) (j := 6) (by rfl) scPairs.nd rfl rfl (by decide) rfl rfl (pa_cons (pe_lst pa_nil) (pa_cons (pe_callTy (kc_tup (K := K) rfl) (by rfl) T.m_tuple (by decide +kernel) (pa_cons (pe_callB (kc_sortS (K := K) rfl) (by rfl) T.m_sorted (by decide +kernel) (pa_cons (pe_lc (own := [("_law_kind_so", 8), ("_law_own", 9)]) (by rfl) scPairs.nd (kp_tup (K := K) rfl (pv 1)) (blkOk_by (by kernel_rfl)) (fun _ _ _ _ _ => (kg_tup (K := K) (n := 2) rfl rfl (pgs_cons (pg_name (i := 8) scPairs.nd rfl (by first | exact Or.inl rfl | exact Or.inr rfl)) (pgs_cons (pg_name (i := 9) scPairs.nd rfl (by first | exact Or.inl rfl | exact Or.inr rfl)) pgs_nil)))) (fun _ _ _ _ _ => pts_nil) (fun _ _ _ _ _ => (pv 9))) pa_nil)) pa_nil)) pa_nil)) (by rfl))
    (pss_cons (ps_for (passes_of rfl) rfl (pi_range1 (by rfl) T.m_range (pa_cons (pe_cal C_law_take hr (pa_cons (pv 0) (pa_cons (pe_op op_add (pv 2) pe_int) pa_nil))) pa_nil)) (pg_name (i := 4) scPairs.nd rfl (by first | exact Or.inl rfl | exact Or.inr rfl)) (pss_cons (ps_set (i := 7) scPairs.nd rfl (by first | exact Or.inl rfl | exact Or.inr rfl) (pe_cal C_law_lot hr (pa_cons (pv 0) (pa_cons (pv 6) pa_nil))))
    (pss_cons (ps_set (i := 8) scPairs.nd rfl (by first | exact Or.inl rfl | exact Or.inr rfl) (pe_cal C_law_outer hr (pa_cons (pv 1) (pa_cons (pv 7) pa_nil))))
    (pss_cons (ps_if (PW.pt (pw_and (pt_cmpR op_gt (pv 3) pe_int (nomark _)) (pw_and1 (pt_cmpR op_eq (pe_cal C_law_take hr (pa_cons (pv 0) (pa_cons (pv 3) pa_nil))) pe_int (nomark _))))) (pss_one (ps_set (i := 8) scPairs.nd rfl (by first | exact Or.inl rfl | exact Or.inr rfl) (pe_ifExp (pt_cmpR op_eq (pv 8) pe_str (nomark _)) pe_str pe_str))) pss_nil)
    (pss_one (ps_expr (ke_bm (K := K) rfl (pe_bm PySem.F.plainAttrs_list PySem.F.slot_list_append PySem.F.type_list_append mt_append (pv 5) (pa_cons (pe_tup (pa_cons (pv 7) (pa_cons (pv 8) pa_nil))) pa_nil)))))))))
    (pss_one (ps_ret (pe_callTy (kc_tup (K := K) rfl) (by rfl) T.m_tuple (by decide +kernel) (pa_cons (pv 5) pa_nil)))))), ?_⟩
  intro H u n m B vs Ps P0 cx hp ⟨line, many, odd, hP, hl1, hl2, hkk, hmany, hodd, hn, hm, hP0⟩ D q
  subst hP hm hP0
  cases hp with
  | cons h0 hp =>
  obtain ⟨mv, ov, e, h1, h2⟩ := two_at hp
  subst e
  rename_i lv
  have t0 : At (wu u).S (wu u) n B H B H := At.start cx
  refine q_nilPar (m := n) (P := TuP K ((sortS (line.map (·.2))).map (dS K))) t0 (fun a ha => ev_cb (ea_cons (ev_lo (ev_cb (ea_cons (ev_lo ((Ev.le (l := n) (m := n + line.length * 0) (ev_lc1 (K := K) (c := 0) (xs := line) (fun p => dS K p.2) (es_tup (ev_var (i := 1) rfl (tt_line h0))).s (by omega) fun x v B1 l hx s1 hv => ?turn0) (by omega)).to (P' := LoP K ((line.map (·.2)).map (dS K))) (by rw [List.map_map] <;> rfl))) ea_nil) (rc_sortS (by rw [List.length_map]; omega)))) ea_nil) rc_tupL) fun f tv B1 H1 t1 s1 htv hfS hf0 => ?_
  case turn0 =>
    obtain ⟨a, v1, v2, rfl, hT, e1, e2⟩ := two_ss hv
    exact ⟨_, tg_two hT, rfl, ev_var rfl e2⟩
  have hI : ∀ vs, Inc (wu u) (wl (wu u) f (.lst vs)) := fun vs => inc_wl inc_refl hfS
  refine q_open (F := fun ta => tSeq (tFor (iRng1 ta) _ _) _) (m := n + 1) (Ps := [below K (many + 1)]) (fun _ _ _ _ => rfl) t1 (ea_cons (ev_fnU (u := u) (hI []) (ea_cons (ev_var (i := 0) (P := VV (.ref u)) rfl rfl) (ea_cons ((ev_op (ev_var (i := 2) rfl (dd_up h1 s1)) ev_int rv_I0i).to (P' := dI K ((many + 1 : Nat) : Int)) rfl) ea_nil)) ⟨many + 1, rfl, by omega, by omega, by omega, rfl, rfl⟩) ea_nil) fun vs B2 H2 t2 s2 hvs => ?_
  obtain ⟨nv, rfl, j, hj, hnv⟩ := one_of hvs
  have htl : 1 ≤ (sortS (line.map (·.2))).length := by rw [(sortS_perm _).length_eq, List.length_map]; exact hl1
  refine q_for (Y := fun i : Nat => dI K (i : Int)) (xs := List.range j) (fun i Bs w2 k σ B => ∃ (rows : List (List Str × Str)) (vs : List V) (x4 x7 x8 : Option V), w2 = wl (wu u) f (.lst vs) ∧ k = n + 1 + i * 200 ∧ rows.length = i ∧ (∀ r ∈ rows, isK r.2 ∧ lotOf (sortS (line.map (·.2))) r.1) ∧ PsAt vs (rows.map fun r => DD K (eRow r)) B ∧ σ = [some (.ref u), some lv, some mv, some ov, x4, some (.ref f), some tv, x7, x8, none]) t2
    (es_rng (K := K) (ea_val (.cons hnv .nil)) (by omega)) ?_ ?_ ?_
  · intro B3 s3
    exact ⟨[], [], _, _, _, rfl, rfl, rfl, fun _ z => (List.not_mem_nil z).elim, .nil, rfl⟩
  · rintro i x v Bs w2 k σ' B3 B4 H4 hx3 sb sbs ⟨rows, vs, x4, x7, x8, rfl, rfl, hrl, hrows, hvs2, rfl⟩ t4 s4 hv
    have hi : i < j := by
      have z := (List.getElem?_eq_some_iff.mp hx3).1
      rwa [List.length_range] at z
    have S1 : Same B B4 := ((((s1.trans s2).trans sb).trans sbs).trans s4)
    have htv4 : (TuP K ((sortS (line.map (·.2))).map (dS K))).p tv B4 := Pr.up htv (((s2.trans sb).trans sbs).trans s4)
    refine q_asg (i := 7) (m := n + 1 + i * 200 + 100) (P := ExP (lotOf (sortS (line.map (·.2)))) fun lot => DD K (eTS lot)) t4 (ev_fnU (u := u) (hI vs) (ea_cons (ev_var (i := 0) (P := VV (.ref u)) rfl rfl) (ea_cons (ev_var (i := 6) rfl htv4) ea_nil)) ⟨_, rfl, htl, by rw [(sortS_perm _).length_eq, List.length_map]; exact hl2, by omega, rfl, rfl⟩) fun lov B5 H5 t5 s5 hlo => ?_
    obtain ⟨lot, hlot, hlo⟩ := hlo
    refine q_asg (i := 8) (m := n + 1 + i * 200 + 100) (P := dS K (outer line lot)) t5 (ev_fn (ea_cons (ev_var (i := 1) rfl (dd_up h0 (S1.trans s5))) (ea_cons (ev_var (i := 7) rfl hlo) ea_nil)) ⟨line, lot, rfl, by
      obtain ⟨x, hx⟩ := lotOf_ne hlot htl
      obtain ⟨p, hp, e⟩ := List.mem_map.mp ((sortS_perm _).mem_iff.mp (lotOf_sub hlot x hx))
      exact ⟨p, hp, by rw [e]; exact hx⟩, by omega, rfl⟩) fun kv B6 H6 t6 s6 hkv => ?_
    refine q_maybe (c := isK) (K := K) (v0 := kv) (m := n + 1 + i * 200 + 101) (l := n + 1 + i * 200 + 101) t6 (ex_and (a := decide (0 < (odd : Int))) (et_test (K := K) (ev_op (ev_var (i := 3) rfl (dd_up h2 ((S1.trans s5).trans s6))) ev_int rv_I0b)) (by omega) fun ho => ex_test (K := K) (ev_op (P2 := dI K 0) (ev_fnU (u := u) (P := below K odd) (hI vs) (ea_cons (ev_var (i := 0) (P := VV (.ref u)) rfl rfl) (ea_cons (ev_var (i := 3) rfl (dd_up h2 ((S1.trans s5).trans s6))) ea_nil)) ⟨odd, rfl, by have z := of_decide_eq_true ho; omega, by omega, by omega, rfl, rfl⟩) ev_int fun w n B x y ⟨z, hz, hx⟩ hy => (rv_eqI w n B x y hx hy).imp fun v B' _ q => ⟨_, True.intro, q⟩)) (by omega) (fun B7 s7 => ?kind) rfl ⟨_, outer_isK lot hkk, hkv⟩ fun kv2 B7 H7 t7 s7 hkv2 => ?_
    case kind =>
      refine ev_if (m := n + 1 + i * 200 + 101) (b := decide (outer line lot = "sum")) (et_test (K := K) (ev_op (ev_var (i := 8) rfl (dd_up hkv s7)) (ev_str (K := K)) rv_eqS)) (fun _ => (ev_str (K := K)).imp fun v B' hv => ⟨_, .inr rfl, hv⟩) fun _ => (ev_str (K := K)).imp fun v B' hv => ⟨_, .inl rfl, hv⟩
    obtain ⟨kd, hkd, hkv2⟩ := hkv2
    have hvl : vs.length = i := by rw [ps_len hvs2, List.length_map, hrl]
    refine s_app (m := n + 1 + i * 200 + 101) t7 hfS hf0 rfl (by omega) ((ev_tup (K := K) (ea_cons (ev_var (i := 7) rfl (dd_up hlo (s6.trans s7))) (ea_cons (ev_var (i := 8) rfl hkv2) ea_nil))).imp fun _ _ z => tt_dd (ds := [eTS lot, .str kd]) z) fun rv B8 H8 t8 s8 hrv => ?_
    refine ⟨_, _, B8, t8.le (m := n + 1 + (i + 1) * 200) (by omega), ((((sbs.trans s4).trans s5).trans s6).trans s7).trans s8, rows ++ [(lot, kd)], vs ++ [rv], _, _, _, rfl, rfl, by rw [List.length_append, hrl] <;> rfl, ?_, ?_, rfl⟩
    · intro r hr
      rcases List.mem_append.mp hr with hr | hr
      · exact hrows r hr
      · rw [List.mem_singleton.mp hr]
        exact ⟨hkd, hlot⟩
    · rw [List.map_append]
      exact ps_snoc (psAt_same ((((s4.trans s5).trans s6).trans s7).trans s8) hvs2) hrv
  · rintro Bs w2 k σ' B3 H3 sb sbs t3 ⟨rows, vs, x4, x7, x8, rfl, rfl, hrl, hrows, hvs2, rfl⟩
    rw [List.length_range] at hrl t3
    have t4 := (t3.less hfS hf0)
    have hf : (LiP K (rows.map fun r => DD K (eRow r))).p (.ref f) (upd B3 f (.lst vs)) := ⟨f, vs, rfl, sl_of upd_same, psAt_same (same_new t3.outB) hvs2⟩
    exact s_ret (m := n + 1 + j * 200) t4 (ev_cb (ea_cons (ev_var (i := 5) rfl hf) ea_nil) rc_tupL) fun v B' H' t s hv => q v B' H' (t.le (by omega)) ⟨rows, ⟨by omega, hrows⟩, hv⟩
end
end Pk


set_option Elab.async false
set_option linter.all false
set_option maxRecDepth 100000
set_option maxHeartbeats 4000000
/-! PkF18: _law_cells, _law_box. -/
namespace Pk
open PySem PySem.Spec PyProof.Rows L2 PkH PySem.W
section
variable {S0 : Addr → Prop} {w : Wd} {n m l : Nat} {K : PySem.W.Frag} {B0 H0 B H : Hp} {D : Ends} {σ : L2.St} {te : TE} {tt tu : TT} {ts tz : TS} {P : Pr} {Ps : List Pr} {ta : TA}
theorem intsV_of {xs : List Int} {vs : List V} (h : PsAt vs (xs.map (dI K)) B) : vs = xs.map V.int := by
  induction xs generalizing vs with
  | nil => cases h <;> rfl
  | cons x xs ih =>
    cases h with
    | cons h1 h2 => rw [dd_int h1, ih h2] <;> rfl
theorem psI : ∀ (xs : List Int), PsAt (xs.map V.int) (xs.map (dI K)) B
  | [] => .nil
  | x :: xs => .cons (.int x) (psI xs)
/-- x = list(e) or [0] -/
theorem q_orOwn {i : Nat} (t : At S0 w n B0 H0 B H) {xs : List Int} (h : Ev w n m te σ B (LiP K (xs.map (dI K))))
    (q : ∀ a (cs : List Int) B' H', At S0 (wl w a (.lst (cs.map V.int))) m B0 H0 B' H' → Same B B' → ¬ w.S a → H0 a = none → cs.length = (if xs.isEmpty then 1 else xs.length) → tz D (σ.set i (some (.ref a))) H') :
    tSeq (tAsg (tOrT K (tCB (fun xs H Q => ∃ p ys, xs = [V.ref p] ∧ (SqL K H p ys ∨ SqT K H p ys) ∧ ∀ l, H l = none → Q (.ref l) (upd H l (.lst ys))) (tCons te tNil)) (tLst (tCons (tC (.int 0)) tNil))) (gName i)) tz D σ H := by
  refine t.use (Q := fun v H1 => ∃ p ys, [v] = [V.ref p] ∧ (SqL K H1 p ys ∨ SqT K H1 p ys) ∧ ∀ l, H1 l = none → ∃ k, TruV K (.ref l) (upd H1 l (.lst ys)) k ∧ if k = true then tz D (σ.set i (some (.ref l))) (upd H1 l (.lst ys)) else tLst (tCons (tC (.int 0)) tNil) σ (upd H1 l (.lst ys)) fun x H2 => tz D (σ.set i (some x)) H2) (h B (Same.refl B)) fun v B' H' t' s' hv => ?_
  obtain ⟨p0, vs, rfl, h1, h2⟩ := hv
  refine ⟨p0, vs, rfl, .inl (sqL_same t'.c.sub h1), fun l hl => ⟨!vs.isEmpty, .inl ⟨vs, sl_of upd_same, rfl⟩, ?_⟩⟩
  obtain rfl := intsV_of h2
  have t2 : At S0 (wl w l (.lst (xs.map V.int))) m B0 H0 B' _ := t'.more hl
  cases xs with
  | cons x xs => exact q l (x :: xs) B' _ t2 s' (t'.c.notS hl) (t'.not0 hl) rfl
  | nil =>
    refine ⟨Nat.le_of_ble_eq_true rfl, fun a ha => ?_⟩
    have t3 : At S0 (wl w a (.lst [V.int 0])) m B0 H0 B' _ := t2.drop.more ha
    exact q a [0] B' _ t3 s' (t2.drop.c.notS ha) (t2.drop.not0 ha) rfl
/-- x[j] = e, x a list of one's own -/
theorem s_putV {i i2 : Nat} {a : Addr} {vs : List V} {j : Int} {k : Nat} (t : At S0 (wl w a (.lst vs)) n B0 H0 B H) (hw : ¬ w.S a) (h0 : H0 a = none) (hi : σ[i]? = some (some (.ref a))) (hi2 : σ[i2]? = some (some (.int j))) (hj : ixN vs.length j = some k) (h : Ev (wl w a (.lst vs)) n m te σ B P)
    (q : ∀ v B' H', At S0 (wl w a (.lst (vs.set k v))) m B0 H0 B' H' → Same B B' → P.p v B' → D.nx σ H') : tAsg te (gSub (tVar i) (tVar i2) rSetL) D σ H :=
  t.use (Q := fun x H1 => gSub (tVar i) (tVar i2) rSetL x σ H1 D.nx) (h B (Same.refl B)) fun v B' H' t' s' hv =>
    ⟨.ref a, hi, .int j, hi2, a, vs, j, k, rfl, rfl, t'.here, hj, q v B' _ (t'.set hw h0) s' hv⟩
def GCells (K : PySem.W.Frag) : List Pr → Pr → Prop := fun Ps P => ∃ xs : List Int, Ps = [LiP K (xs.map (dI K)), dI K 2] ∧ xs.length ≤ 63 ∧ P = ExP (fun cs : List Int => 1 ≤ cs.length ∧ cs.length ≤ 2) fun cs => LiP K (cs.map (dI K))
def spBox (K : PySem.W.Frag) : Sp := fun vs H Q _ => ∃ (B : Hp) (xs : List Int) (k : Nat), Same B H ∧ PsAt vs [LiP K (xs.map (dI K)), dI K (k : Int)] B ∧ xs.length ≤ 100 ∧ k ≤ 100 ∧ ∀ u a b B1 H1, Gr (fun _ => False) B H B1 H1 → Same B1 H1 → H1 u = none → 0 ≤ a → Q (.ref u) (upd H1 u (tri a b 0))
end
theorem scCells : FnScope ["_law_script", "_law_top", "_law_cells_here", "_law_k", "_law_cell", "_law_at_so"] ["_law_script", "_law_top"] (defScope (top 53)) := ⟨rfl, rfl, rfl, by decide +kernel, rfl, by decide +kernel, by decide +kernel⟩
section
variable {P : Program} {w : World} {K : PySem.W.Frag} {mg : Str → Option Value} {base : Heap}
theorem cal_any {x qual : Str} {st : Stmt} {f : Addr} {fd : FuncData} {N ps : List Str} {k : Nat} {sp : Sp} (F : FnP K x qual st f fd) (g : mg x = some (.ref f)) (S : FnScope N ps (defScope st))
    (hl : ∀ vs H Q E, sp vs H Q E → vs.length = ps.length)
    (hb : ∀ (kV doc pm : Value) (an : Option Addr) (cdv ct : Value) (us : List Value), us.length = ps.length → bindArgs (PySem.W.fnOf x qual (defArgs st) (defBody st) (defScope st) .none kV doc pm an cdv ct) ⟨us, []⟩ = pure (ps.zip us))
    (body : ∀ (cdv : Value) (A : Around) (outer : List Env) (s : Shared) (H : Hp) (E : XK), Room k (A.deeper (envOfC qual (defScope st) s.heap.objs.size f cdv)) →
      ∃ t, PSs (cxOf CX0 P w K mg base N qual (defScope st) f cdv A outer s H E) (defBody st) t ∧ ∀ H vs Q, sp vs H Q E → t { nx := fun _ H' => Q .non H', rt := Q } (start N vs) H) :
    Cal P w K mg base (k + 1) x ps sp := by
  refine ⟨f, fd, F.ok S hl fun cdv A outer s H vs Q E hr h => ?_, g, F.kp, F.bindsN hb⟩
  obtain ⟨t, ht, hq⟩ := body cdv A outer s H E hr
  exact ⟨t, ht, hq H vs Q h⟩
theorem calCells (T : Txt K mg) : Cal P w K mg base 1 "_law_cells" ["_law_script", "_law_top"] (spF (GCells K)) := by
  obtain ⟨fd, F⟩ := T.f_law_cells
  refine cal_of (k := 0) F T.g_law_cells scCells (fun Ps P ⟨_, e, _⟩ => by rw [e] <;> rfl) (fun _ _ _ _ _ _ us hl => match us, hl with | [_, _], _ => rfl) fun cdv A o s H E hr => ?_
  refine ⟨_, (pss_cons (ps_set (i := 2) scCells.nd rfl (by first | exact Or.inl rfl | exact Or.inr rfl) (ke_or (K := K) rfl (pe_callTy (kc_list (K := K) rfl) (by rfl) T.m_list (by decide +kernel) (pa_cons (pe_slice (ks_list (K := K) rfl) (pv 0) po_none (po_some (pv 1))) pa_nil)) (pe_one (pe_lst (pa_cons pe_int pa_nil)))))
    (pss_cons (ps_for (passes_of rfl) rfl (kp_enum (K := K) rfl (pi_enum (by rfl) T.m_enumerate (pa_cons (pe_slice (ks_list (K := K) rfl) (pv 0) (po_some (pv 1)) (po_some pe_int)) pa_nil))) (kg_tup (K := K) (n := 2) rfl rfl (pgs_cons (pg_name (i := 3) scCells.nd rfl (by first | exact Or.inl rfl | exact Or.inr rfl)) (pgs_cons (pg_name (i := 4) scCells.nd rfl (by first | exact Or.inl rfl | exact Or.inr rfl)) pgs_nil))) (pss_cons (ps_set (i := 5) scCells.nd rfl (by first | exact Or.inl rfl | exact Or.inr rfl) (pe_op op_modN (pe_callTy call_int1 (by rfl) T.m_int (by decide +kernel) (pa_cons (pv 3) pa_nil)) (pv 1)))
    (pss_one (ps_asg (pe_op op_add (pe_ix (kx_list (K := K) rfl) (pv 2) (pv 5) (fun _ _ => rfl)) (pe_op op_mul (pv 4) (pe_op op_add (pv 3) pe_int))) (pg_sub (pv 2) (pv 5) set_list)))))
    (pss_one (ps_ret (pv 2))))), ?_⟩
  intro H B vs Ps P0 hs hp ⟨xs, hP, hl, hP0⟩ D q
  subst hP hP0
  obtain ⟨sv, tv, rfl, h0, h1⟩ := two_at hp
  obtain rfl := dd_int h1
  have E2 : ∀ {σ : L2.St} {B' : Hp}, σ[1]? = some (some (V.int 2)) → Ev w0 0 0 (tVar 1) σ B' (dI K 2) := fun e => ev_var e (Dp.int 2)
  refine q_orOwn (m := 0) (xs := xs.take 2) (at0 hs) ((ev_lo (ev_sl (ev_var (i := 0) rfl h0) eo_none (eo_some (E2 rfl)) rs_list)).to (P' := LiP K ((xs.take 2).map (dI K))) (by rw [cutP_map]; exact congrArg (fun z : List Int => LiP K (z.map (dI K))) (cut_to xs 2))) fun a cs B1 H1 t1 s1 haS ha0 hcl => ?_
  have hcl0 : 1 ≤ cs.length ∧ cs.length ≤ 2 ∧ (2 ≤ xs.length → cs.length = 2) := by
    rw [hcl]
    cases xs with
    | nil => exact ⟨by decide, by decide, fun z => by rw [List.length_nil] at z; omega⟩
    | cons x xs =>
      show 1 ≤ (List.take 2 (x :: xs)).length ∧ (List.take 2 (x :: xs)).length ≤ 2 ∧ (2 ≤ (x :: xs).length → (List.take 2 (x :: xs)).length = 2)
      rw [List.length_take, List.length_cons]
      omega
  clear hcl
  have hxs : (xs.take 63).drop 2 = xs.drop 2 := by rw [List.take_of_length_le hl]
  refine q_for (m := 0) (xs := (List.range (xs.drop 2).length).zip (xs.drop 2)) (Y := fun p => TuP K [dI K (p.1 : Int), dI K p.2]) (fun i Bs u k σ B => ∃ (cs : List Int) (x3 x4 x5 : Option V), u = wl w0 a (.lst (cs.map V.int)) ∧ 1 ≤ cs.length ∧ cs.length ≤ 2 ∧ (2 ≤ xs.length → cs.length = 2) ∧ σ = [some sv, some (.int 2), some (.ref a), x3, x4, x5]) t1
    (es_enum (K := K) (Y := dI K) (ea_cons ((ev_lo (ev_sl (ev_var (i := 0) rfl (Pr.up h0 s1)) (eo_some (K := K) (ev_var (i := 1) rfl (Dp.int 2))) (eo_some (K := K) ev_int) rs_list)).to (P' := LiP K ((xs.drop 2).map (dI K))) (by rw [cutP_map]; exact congrArg (fun z : List Int => LiP K (z.map (dI K))) ((cut_mid xs 2 63).trans hxs))) ea_nil)) ?_ ?_ ?_
  · intro B2 s2
    exact ⟨cs, _, _, _, rfl, hcl0.1, hcl0.2.1, hcl0.2.2, rfl⟩
  · rintro i x v Bs u k σ' B2 B3 H3 hx sb sbs ⟨cs, x3, x4, x5, rfl, c1, c2, c3, rfl⟩ t3 s3 hv
    obtain ⟨pa, v1, v2, rfl, hT, e1, e2⟩ := two_of hv
    have hmem := List.of_mem_zip (List.mem_of_getElem? hx)
    have hx1 : x.1 < (xs.drop 2).length := List.mem_range.mp hmem.1
    rw [List.length_drop] at hx1
    have hc2 : cs.length = 2 := c3 (by omega)
    refine tg_two hT H3 _ t3.c.sub ?_
    have hm : (x.1 : Int).fmod 2 = ((x.1 % 2 : Nat) : Int) := by
      rw [Int.fmod_eq_emod_of_nonneg _ (by decide)]
      rfl
    have hlt : x.1 % 2 < (cs.map V.int).length := by
      rw [List.length_map, hc2]
      exact Nat.mod_lt _ (by decide)
    refine q_asg (i := 5) (m := k) (P := dI K ((x.1 % 2 : Nat) : Int)) t3 ((ev_op (ev_cb (ea_cons (ev_var (i := 3) rfl e1) ea_nil) rc_int1) (ev_var (i := 1) rfl (Dp.int 2)) (rv_Ii (by decide))).to (congrArg (dI K) hm)) fun v5 B4 H4 t4 s4 h5 => ?_
    obtain rfl := dd_int h5
    refine s_putV (i := 2) (i2 := 5) (k := x.1 % 2) (m := k) (P := dI K ((cs[x.1 % 2]'(by rw [List.length_map] at hlt; exact hlt)) + x.2 * ((x.1 : Int) + 2))) t4 haS ha0 rfl rfl ?_ (ev_op (ev_ixW (i := 2) (v := V.int (cs[x.1 % 2]'(by rw [List.length_map] at hlt; exact hlt))) rfl (ev_var (i := 5) rfl h5) ((atI_nat hlt).trans (by rw [List.getElem?_map, List.getElem?_eq_getElem] <;> rfl)) (Dp.int _)) (ev_op (ev_var (i := 4) rfl (dd_up e2 s4)) (ev_op (ev_var (i := 3) rfl (dd_up e1 s4)) ev_int rv_I0i) (rv_Ii (.inr ⟨by omega, by omega⟩))) rv_I0i) fun v6 B5 H5 t5 s5 h6 => ?_
    · unfold ixN
      rw [if_pos (by omega), if_pos (by omega)]
      rfl
    · obtain rfl := dd_int h6
      rw [← List.map_set] at t5
      exact ⟨_, k, B5, t5, ((sbs.trans s3).trans s4).trans s5, _, _, _, _, rfl, by rw [List.length_set]; exact c1, by rw [List.length_set]; exact c2, fun z => by rw [List.length_set]; exact c3 z, rfl⟩
  · rintro Bs u k σ' B2 H2 sb sbs t2 ⟨cs, x3, x4, x5, rfl, c1, c2, c3, rfl⟩
    refine ⟨.ref a, rfl, q k (.ref a) _ H2 (t2.less haS ha0) ⟨cs, ⟨c1, c2⟩, a, cs.map V.int, rfl, sl_of upd_same, psI cs⟩⟩
end
end Pk


set_option Elab.async false
set_option linter.all false
set_option maxRecDepth 100000
set_option maxHeartbeats 4000000
/-! PkF19: _law_box. -/
namespace Pk
open PySem PySem.Spec PyProof.Rows L2 PkH PySem.W
theorem scBox : FnScope ["_law_script", "_law_k", "_law_cell"] ["_law_script", "_law_k"] (defScope (top 51)) := ⟨rfl, rfl, rfl, by decide +kernel, rfl, by decide +kernel, by decide +kernel⟩
section
variable {P : Program} {w : World} {K : PySem.W.Frag} {mg : Str → Option Value} {base : Heap}
theorem bit_ok (b : Bool) : (-(2 ^ 64) < (if b = true then (1 : Int) else 0) ∧ (if b = true then (1 : Int) else 0) < 2 ^ 64) ∧ 0 ≤ (if b = true then (1 : Int) else 0) := by
  cases b <;> exact ⟨⟨by decide, by decide⟩, by decide⟩
theorem box_ret {σ : L2.St} {ta : TA} {D : Ends} {B0 H0 B H : Hp} {S0 : Addr → Prop} {a b : Int} (t : At S0 w0 0 B0 H0 B H) (h : EvA w0 0 0 ta σ B [dI K a, dI K b, dI K 0]) (q : ∀ u B1 H1, At S0 w0 0 B0 H0 B1 H1 → H1 u = none → D.rt (.ref u) (upd H1 u (tri a b 0))) : tRet (tLst ta) D σ H := by
  refine t.use (Q := fun xs H1 => xs.length ≤ sizeLine ∧ ∀ p, H1 p = none → D.rt (.ref p) (upd H1 p (.lst xs))) (h B (Same.refl B)) fun vs B2 H2 t2 s2 hvs => ?_
  cases hvs with
  | cons g1 hvs =>
  obtain ⟨v2, v3, rfl, g2, g3⟩ := two_at hvs
  obtain rfl := dd_int g1
  obtain rfl := dd_int g2
  obtain rfl := dd_int g3
  exact ⟨Nat.le_of_ble_eq_true rfl, fun u hu => q u B2 H2 t2 hu⟩
theorem calBox (T : Txt K mg) : Cal P w K mg base 1 "_law_box" ["_law_script", "_law_k"] (spBox K) := by
  obtain ⟨fd, F⟩ := T.f_law_box
  refine cal_any (k := 0) F T.g_law_box scBox (fun vs H Q E ⟨B, xs, k, _, hp, _⟩ => by rw [ps_len hp] <;> rfl) (fun _ _ _ _ _ _ us hl => match us, hl with | [_, _], _ => rfl) fun cdv A o s H E hr => ?_
  refine ⟨_, (pss_cons (ps_set (i := 2) scBox.nd rfl (by first | exact Or.inl rfl | exact Or.inr rfl) (pe_ifExp (pt_cmpR op_lt (pv 1) (pe_callB (kc_len (K := K) rfl) (by rfl) T.m_len PySem.boot_len (pa_cons (pv 0) pa_nil)) (nomark _)) (pe_ix (kx_list (K := K) rfl) (pv 0) (pv 1) (fun _ _ => rfl)) pe_int))
    (pss_one (ps_ret (pe_lst (pa_cons (pe_op op_mul (pe_callB call_abs (by rfl) T.m_abs (by decide +kernel) (pa_cons (pv 2) pa_nil)) (pe_callTy call_int1 (by rfl) T.m_int (by decide +kernel) (pa_cons (pe_cmpR op_ge (pe_callB call_abs (by rfl) T.m_abs (by decide +kernel) (pa_cons (pv 2) pa_nil)) (pe_op op_pow pe_int pe_int) (nomark _)) pa_nil))) (pa_cons (pe_op op_add (pe_op op_add (pe_op op_modN (pe_callTy call_int1 (by rfl) T.m_int (by decide +kernel) (pa_cons (pv 2) pa_nil)) pe_int) (pe_op op_mul pe_int (pv 1))) pe_int) (pa_cons pe_int pa_nil))))))), ?_⟩
  rintro H vs Q ⟨B, xs, k, hs, hp, hl, hk, q⟩
  obtain ⟨sv, kv, rfl, h0, h1⟩ := two_at hp
  refine q_asg (m := 0) (P := dI K (if h : k < xs.length then xs[k] else 0)) (at0 hs) (ev_if (b := decide (k < xs.length)) (m := 0) (et_test ((ev_op (ev_var rfl h1) (ev_cb (ea_cons (ev_var rfl h0) ea_nil) rc_lenL) rv_I0b).to (congrArg (dB K) (by rw [List.length_map]; exact decide_eq_decide.mpr (by omega))))) (fun hb => ?c1) fun hb => ?c2) fun cv B1 H1 t1 s1 hcv => ?_
  case c1 =>
    have hlt := of_decide_eq_true hb
    rw [dif_pos hlt]
    refine ev_op (ev_var rfl h0) (ev_var rfl h1) (rv_ixL ?_)
    rw [atI_nat (by rw [List.length_map]; exact hlt), List.getElem?_map, List.getElem?_eq_getElem hlt] <;> rfl
  case c2 =>
    rw [dif_neg (of_decide_eq_false hb)]
    exact ev_int
  generalize (if h : k < xs.length then xs[k] else 0) = c at hcv
  refine box_ret (K := K) (a := (if c < 0 then -c else c) * _) t1 (ea_cons (ev_op (ev_cb (ea_cons (ev_var (i := 2) rfl hcv) ea_nil) rc_abs) (ev_cb (ea_cons (ev_op (ev_cb (ea_cons (ev_var (i := 2) rfl hcv) ea_nil) rc_abs) (ev_op ev_int ev_int (rv_Ii ?pow)) rv_I0b) ea_nil) rc_intB) (rv_Ii (.inr ?m1))) (ea_cons (ev_op (ev_op (ev_op (ev_cb (ea_cons (ev_var (i := 2) rfl hcv) ea_nil) rc_int1) ev_int (rv_Ii ?nz)) (ev_op ev_int (ev_var (i := 1) rfl (dd_up h1 s1)) (rv_Ii (.inl ?m2))) rv_I0i) ev_int rv_I0i) (ea_cons ev_int ea_nil))) fun u B2 H2 t2 hu => q u _ _ B2 H2 t2.g t2.c.sub hu ?pos
  case pow => exact ⟨by decide, by decide, by decide⟩
  case m1 => exact (bit_ok _).1
  case nz => decide
  case m2 => exact ⟨by decide, by decide⟩
  case pos =>
    exact Int.mul_nonneg (by split <;> omega) (bit_ok _).2
end
end Pk


set_option Elab.async false
set_option linter.all false
set_option maxRecDepth 100000
set_option maxHeartbeats 4000000
/-! Pk18: while True; taking a text out of a list of one's own. -/
namespace Pk
open PySem PySem.Spec PyProof.Rows L2 PkH
section
variable {S0 : Addr → Prop} {w : Wd} {n m l : Nat} {K : PySem.W.Frag} {B0 H0 B H : Hp} {D : Ends} {σ : L2.St} {te : TE} {tb tz : TS} {P : Pr}
/-- while True: I by what is left to do -/
theorem s_while (I : Nat → Wd → Nat → L2.St → Hp → Prop) (m0 : Nat) (t : At S0 w n B0 H0 B H) (h0 : I m0 w n σ B)
    (ht : ∀ m u k σ' B1 H1, Same B B1 → At S0 u k B0 H0 B1 H1 → I m u k σ' B1 →
      tb { D with nx := fun σ2 H2 => ∃ m' u k B2, m' < m ∧ At S0 u k B0 H0 B2 H2 ∧ Same B B2 ∧ I m' u k σ2 B2, ct := fun σ2 H2 => ∃ m' u k B2, m' < m ∧ At S0 u k B0 H0 B2 H2 ∧ Same B B2 ∧ I m' u k σ2 B2, bk := D.nx } σ' H1) :
    tWhile (tTest (tC (.bl true))) tb D σ H := by
  refine ⟨fun m σ2 H2 => ∃ u k B2, At S0 u k B0 H0 B2 H2 ∧ Same B B2 ∧ I m u k σ2 B2, ⟨m0, w, n, B, t, Same.refl B, h0⟩, ?_⟩
  rintro m σ2 H2 ⟨u, k, B2, t2, s2, hI⟩
  refine ⟨true, rfl, ?_⟩
  refine iteT ⟨fun σ3 H3 => ∃ m' u k B3, m' < m ∧ At S0 u k B0 H0 B3 H3 ∧ Same B B3 ∧ I m' u k σ3 B3, ?_, ht m u k σ2 B2 H2 s2 t2 hI⟩
  rintro σ3 H3 ⟨m', u, k, B3, hm, t3, s3, hI3⟩
  exact ⟨m', hm, u, k, B3, t3, s3, hI3⟩
/-- x.remove(e), x a list of texts of one's own -/
theorem q_rem {i : Nat} {a : Addr} {ns : List Str} {k : Str} (t : At S0 (wl w a (.lst (ns.map V.str))) n B0 H0 B H) (hw : ¬ w.S a) (h0 : H0 a = none) (hi : σ[i]? = some (some (.ref a))) (hk : k ∈ ns) (h : Ev (wl w a (.lst (ns.map V.str))) n m te σ B (dS K k))
    (q : ∀ B' H', At S0 (wl w a (.lst ((ns.erase k).map V.str))) m B0 H0 B' H' → Same B B' → tz D σ H') : tSeq (tDrop (tBM K "list" rRemS (tVar i) (tCons te tNil))) tz D σ H := by
  refine ⟨.ref a, hi, .inl ⟨rfl, _, sl_of t.here⟩, ?_⟩
  refine t.use1 h fun v B' H' t' s' hv => ?_
  obtain rfl := dd_str hv
  have hlt : ns.idxOf k < ns.length := List.idxOf_lt_length_of_mem hk
  refine ⟨a, ns, k, ns.idxOf k, rfl, rfl, t'.here, ?_, ?_, ?_⟩
  · rw [List.getElem?_eq_getElem hlt, List.getElem_idxOf hlt]
  · intro j hj e
    have hjl : j < ns.length := by omega
    rw [List.getElem?_eq_getElem hjl] at e
    have e2 := Option.some.inj e
    have z : ((ns[j] == k) = false) := by
      have y := List.not_of_lt_findIdx (p := fun x => x == k) (xs := ns) (i := j) hj
      simpa using y
    rw [e2] at z
    simp at z
  · rw [← List.erase_eq_eraseIdx_of_idxOf (l := ns) (a := k) (i := ns.idxOf k) rfl]
    exact q B' _ (t'.set hw h0) s'
end
/-! ### the mirror of peeled -/
abbrev NRow := Nat × (List Str × Str)
def freeOf (rest : List Str) (rows : List NRow) : List Str := rest.filter fun x => decide ((kindsAt x (rows.map (·.2))).length < 2)
def without (x : Str) (rows : List NRow) : List NRow := rows.filter fun r => !decide (x ∈ r.2.1)
def peelF : Nat → List Str → List NRow → List (Str × Str) → List (Str × Str) × List NRow
  | 0, _, rows, found => (found, rows)
  | f + 1, rest, rows, found => match freeOf rest rows with
    | [] => (found, rows)
    | x :: _ => peelF f (rest.erase x) (without x rows) (found ++ [((kindsAt x (rows.map (·.2))).headD "sum", x)])
def numbered (rows : List (List Str × Str)) : List NRow := (List.range rows.length).zip rows
def peeledF (tags : List Str) (rows : List (List Str × Str)) : List (Str × Str) × List NRow := peelF (tags.length + 1) tags (numbered rows) []
end Pk


set_option Elab.async false
set_option linter.all false
set_option maxRecDepth 100000
set_option maxHeartbeats 4000000
/-! Pk19: worlds without budgets; a walk over a list of one's own; peeled's first line. -/
namespace Pk
open PySem PySem.Spec PyProof.Rows L2 PkH
/-- a world whose budget says nothing -/
def Free (w : Wd) : Prop := ∀ n m H, w.W n H → w.W m H
theorem free_w0 : Free w0 := fun _ _ _ h => h
theorem free_wl {w : Wd} {a : Addr} {o : HO} (h : Free w) : Free (wl w a o) := fun n m H ⟨h1, h2⟩ => ⟨h n m H h1, h2⟩
section
variable {S0 : Addr → Prop} {w : Wd} {n m l k : Nat} {K : PySem.W.Frag} {B0 H0 B H : Hp} {D : Ends} {σ : L2.St} {te ta tb : TE} {tt : TT} {tz : TS} {P Pa Pb : Pr} {α : Type} {xs : List α} {Y : α → Pr} {wi : TI}
theorem Ctx.f (h : Free w) (c : Ctx w n B H) : Ctx w l B H := ⟨c.sub, c.cl, h n l H c.wd⟩
theorem Ev.f (hf : Free w) (h : Ev w n m te σ B P) : Ev w l k te σ B P := fun B1 s1 H c Q q => h B1 s1 H (c.f hf) Q fun v B' H' g c' p => q v B' H' g (c'.f hf) p
theorem EvT.f {b : Bool} (hf : Free w) (h : EvT w n m tt σ B b) : EvT w l k tt σ B b := fun B1 s1 H c Q q => h B1 s1 H (c.f hf) Q fun v B' H' g c' p => q v B' H' g (c'.f hf) p
theorem EvS.f (hf : Free w) (h : EvS w n m wi σ B xs Y) : EvS w l k wi σ B xs Y := fun B1 s1 H c R q => h B1 s1 H (c.f hf) R fun J B' H' g c' p => q J B' H' g (c'.f hf) p
/-- a list of one's own, while it is not changed -/
theorem es_listW {i : Nat} {a : Addr} {vs : List V} (hi : σ[i]? = some (some (.ref a))) (hW : ∀ k H, w.W k H → H a = some (.lst vs)) (h2 : PsAt vs (xs.map Y) B) : EvS w n n (iList K (tVar i)) σ B xs Y := fun B1 s1 H c R q => by
  have hl : vs.length = xs.length := by rw [ps_len h2, List.length_map]
  refine ⟨.ref a, hi, a, rfl, ⟨vs, sl_of (hW _ _ c.wd)⟩, q _ B1 H Gr.refl c ⟨fun i k B3 H3 s3 c3 hi => ?_, fun k B3 H3 s3 c3 => ?_, fun i k B3 H3 v H4 s3 c3 hi hy => ?_⟩⟩
  · obtain ⟨y, hy⟩ := nth_some (ys := vs) (i := i) (by rw [hl]; exact hi)
    exact ⟨vs, y, sl_of (hW _ _ c3.wd), hy⟩
  · exact ⟨vs, sl_of (hW _ _ c3.wd), by rw [hl]; exact Nat.le_refl _⟩
  · obtain ⟨rfl, hv⟩ := hy
    obtain ⟨P, e1, e2⟩ := ps_get h2 (hv vs (sl_of (hW _ _ c3.wd)))
    rw [List.getElem?_map] at e1
    obtain ⟨x, e3, rfl⟩ := Option.map_eq_some_iff.mp e1
    exact ⟨x, B3, e3, Gr.refl, c3, (Y x).mono v B B3 (s1.trans s3) e2⟩
/-- x, y, z = list(a), b, [] -/
theorem q_three {i j r : Nat} {tags : List Str} (t : At S0 w n B0 H0 B H) (h : Ev w n n ta σ B Pa) (hA : Pa = LiP K (tags.map (dS K)) ∨ Pa = TuP K (tags.map (dS K))) (h2 : ∀ l o, ¬ w.S l → Ev (wl w l o) n n tb σ B Pb)
    (q : ∀ a f vb B' H', At S0 (wl (wl w a (.lst (tags.map V.str))) f (.lst [])) n B0 H0 B' H' → Same B B' → ¬ w.S a → H0 a = none → (∀ o, ¬ (wl w a o).S f) → H0 f = none → Pb.p vb B' → tz D (((σ.set i (some (.ref a))).set j (some vb)).set r (some (.ref f))) H') :
    tSeq (tAsg (tTup (tCons (tCB (fun xs H Q => ∃ p ys, xs = [V.ref p] ∧ (SqL K H p ys ∨ SqT K H p ys) ∧ ∀ l, H l = none → Q (.ref l) (upd H l (.lst ys))) (tCons ta tNil)) (tCons tb (tCons (tLst tNil) tNil)))) (gTup K 3 (gCons (gName i) (gCons (gName j) (gCons (gName r) gNil))))) tz D σ H := by
  refine t.use1 (te := ta) (kk := fun vs H1 => ∃ p ys, vs = [V.ref p] ∧ (SqL K H1 p ys ∨ SqT K H1 p ys) ∧ ∀ l, H1 l = none → tCons tb (tCons (tLst tNil) tNil) σ (upd H1 l (.lst ys)) fun us H2 => (V.ref l :: us).length ≤ sizeLine ∧ ∀ p, H2 p = none → gTup K 3 (gCons (gName i) (gCons (gName j) (gCons (gName r) gNil))) (.ref p) σ (upd H2 p (.tup (V.ref l :: us))) fun σ' H' => tz D σ' H') h fun v B1 H1 t1 s1 hv => ?_
  obtain ⟨p0, vs, rfl, h1, hps⟩ : ∃ p0 vs, v = V.ref p0 ∧ (SqL K H1 p0 vs ∨ SqT K H1 p0 vs) ∧ PsAt vs (tags.map (dS K)) B1 := by
    rcases hA with rfl | rfl
    · obtain ⟨p0, vs, e, g1, g2⟩ := hv
      exact ⟨p0, vs, e, .inl (sqL_same t1.c.sub g1), g2⟩
    · obtain ⟨p0, vs, e, g1, g2⟩ := hv
      exact ⟨p0, vs, e, .inr (sqT_same t1.c.sub g1), g2⟩
  refine ⟨p0, vs, rfl, h1, fun a ha => ?_⟩
  obtain rfl := strs_of hps
  have haS : ¬ w.S a := t1.c.notS ha
  have ha0 : H0 a = none := t1.not0 ha
  have t2 : At S0 (wl w a (.lst (tags.map V.str))) n B0 H0 B1 (upd H1 a (.lst (tags.map V.str))) := t1.more ha
  refine t2.use (Q := fun vb H2 => tCons (tLst tNil) tNil σ H2 fun us H3 => (V.ref a :: vb :: us).length ≤ sizeLine ∧ ∀ p, H3 p = none → gTup K 3 (gCons (gName i) (gCons (gName j) (gCons (gName r) gNil))) (.ref p) σ (upd H3 p (.tup (V.ref a :: vb :: us))) fun σ' H' => tz D σ' H') ((h2 a (.lst (tags.map V.str)) haS).grow s1 B1 (Same.refl B1)) fun vb B2 H2 t3 s2 hvb => ?_
  refine ⟨Nat.zero_le _, fun f hf => ⟨Nat.le_of_ble_eq_true rfl, fun T hT => ?_⟩⟩
  have hfS : ∀ o, ¬ (wl w a o).S f := fun o => t3.c.notS hf
  have t4 : At S0 (wl (wl w a (.lst (tags.map V.str))) f (.lst [])) n B0 H0 B2 (upd H2 f (.lst [])) := t3.more hf
  have go := go_newT (w := wl (wl w a (.lst (tags.map V.str))) f (.lst [])) (n := n) (K := K) (B := B2) (vs := [V.ref a, vb, V.ref f]) (Ps := [VV (.ref a), VV vb, VV (.ref f)]) (.cons rfl (.cons rfl (.cons rfl .nil)))
  refine go _ t4.c (fun v H3 => gTup K 3 (gCons (gName i) (gCons (gName j) (gCons (gName r) gNil))) v σ H3 fun σ' H' => tz D σ' H') (fun v B3 H3 g3 c3 hv3 => ?_) T hT
  obtain ⟨T2, us, rfl, hT2, hus⟩ := hv3
  cases hus with
  | cons e1 hus =>
  obtain ⟨u2, u3, rfl, e2, e3⟩ := two_at hus
  obtain rfl := e1
  obtain rfl := e2
  obtain rfl := e3
  have t5 := t4.step g3 c3
  exact ⟨T2, _, rfl, sqT_same c3.sub hT2, rfl, _, _, rfl, _, _, rfl, _, _, rfl, rfl, q a f _ B3 H3 t5 ((s1.trans s2).trans g3.ex) haS ha0 hfS (t3.not0 hf) (Pr.up hvb g3.ex)⟩
end
end Pk


set_option Elab.async false
set_option linter.all false
set_option maxRecDepth 100000
set_option maxHeartbeats 4000000
/-! PkF20: peeled. -/
namespace Pk
open PySem PySem.Spec PyProof.Rows L2 PkH PySem.W
def nrP (K : PySem.W.Frag) (r : NRow) : Pr := TuP K [dI K (r.1 : Int), DD K (eRow r.2)]
def GPeel (K : PySem.W.Frag) (N : Nat) : List Pr → Pr → Prop := fun Ps P => ∃ (tags : List Str) (rows : List (List Str × Str)) (d : PyData) (A : Pr), Ps = [A, DD K d] ∧ (A = LiP K (tags.map (dS K)) ∨ A = TuP K (tags.map (dS K))) ∧ noDict d = true ∧ wide d ∧ lev d ≤ N ∧ tupD d = eRows rows ∧ tags.length < 64 ∧ rows.length < 64 ∧
  P = TuP K [LiP K ((peeledF tags rows).1.map fun p => DD K (eSS p)), TuP K ((peeledF tags rows).2.map fun r => dI K (r.1 : Int))]
theorem numbered_len (rows : List (List Str × Str)) : (numbered rows).length = rows.length := by
  unfold numbered
  rw [List.length_zip, List.length_range, Nat.min_self]
theorem scPeel : FnScope ["labels", "answers", "rest", "rows", "found", "free", "kinds", "name", "number", "row"] ["labels", "answers"] (defScope (top 46)) := ⟨rfl, rfl, rfl, by decide +kernel, rfl, by decide +kernel, by decide +kernel⟩
section
variable {P : Program} {w : World} {K : PySem.W.Frag} {mg : Str → Option Value} {base : Heap}
theorem enum_eq (rows : List (List Str × Str)) : ((List.range (rows.map fun r => DD K (eRow r)).length).zip (rows.map fun r => DD K (eRow r))).map (fun p => TuP K [dI K (p.1 : Int), p.2]) = (numbered rows).map (nrP K) := by
  unfold numbered
  rw [List.length_map, List.zip_map_right, List.map_map]
  rfl
theorem calPeel (T : Txt K mg) (N : Nat) : Cal P w K mg base (N + 3) "peeled" ["labels", "answers"] (spF (GPeel K N)) := by
  obtain ⟨fd, F⟩ := T.f_peeled
  have C_tupled := (calTup (P := P) (w := w) (base := base) T N).mono (k := N + 2) (by omega)
  have C_kinds_at := (calKinds (P := P) (w := w) (base := base) T).mono (k := N + 2) (by omega)
  refine cal_of (k := N + 2) F T.g_peeled scPeel (fun Ps P ⟨_, _, _, _, e, _⟩ => by rw [e] <;> rfl) (fun _ _ _ _ _ _ us hl => match us, hl with | [_, _], _ => rfl) fun cdv A o s H E hr => ?_
  refine ⟨_, (pss_cons (ps_asg (pe_tup (pa_cons (pe_callTy (kc_list (K := K) rfl) (by rfl) T.m_list (by decide +kernel) (pa_cons (pv 0) pa_nil)) (pa_cons (pe_listEnum rfl (by rfl) T.m_list (by rfl) T.m_enumerate (pe_cal C_tupled hr (pa_cons (pv 1) pa_nil))) (pa_cons (pe_lst pa_nil) pa_nil)))) (kg_tup (K := K) (n := 3) rfl rfl (pgs_cons (pg_name (i := 2) scPeel.nd rfl (by first | exact Or.inl rfl | exact Or.inr rfl)) (pgs_cons (pg_name (i := 3) scPeel.nd rfl (by first | exact Or.inl rfl | exact Or.inr rfl)) (pgs_cons (pg_name (i := 4) scPeel.nd rfl (by first | exact Or.inl rfl | exact Or.inr rfl)) pgs_nil)))))
    (pss_one (ps_while (passes_of rfl) (pt_val pe_bl) (pss_cons (ps_set (i := 5) scPeel.nd rfl (by first | exact Or.inl rfl | exact Or.inr rfl) (pe_lc (own := [("name", 7)]) (by rfl) scPeel.nd (kp_list (K := K) rfl (pv 2)) (blkOk_by (by kernel_rfl)) (fun _ _ _ _ _ => (pg_name (i := 7) scPeel.nd rfl (by first | exact Or.inl rfl | exact Or.inr rfl))) (fun _ _ _ _ _ => (pts_one (pt_cmpR op_lt (pe_callB (kc_len (K := K) rfl) (by rfl) T.m_len PySem.boot_len (pa_cons (pe_cal C_kinds_at hr (pa_cons (pv 7) (pa_cons (pe_lc (own := [("number", 8), ("row", 9)]) (by rfl) scPeel.nd (kp_list (K := K) rfl (pv 3)) (blkOk_by (by kernel_rfl)) (fun _ _ _ _ _ => (kg_tup (K := K) (n := 2) rfl rfl (pgs_cons (pg_name (i := 8) scPeel.nd rfl (by first | exact Or.inl rfl | exact Or.inr rfl)) (pgs_cons (pg_name (i := 9) scPeel.nd rfl (by first | exact Or.inl rfl | exact Or.inr rfl)) pgs_nil)))) (fun _ _ _ _ _ => pts_nil) (fun _ _ _ _ _ => (pv 9))) pa_nil))) pa_nil)) (pe_glob (v := .int 2) rfl T.c_two.choose_spec ⟨_, rfl⟩) (nomark _)))) (fun _ _ _ _ _ => (pv 7))))
    (pss_cons (ps_if (pt_cmpR op_eq (pe_callB (kc_len (K := K) rfl) (by rfl) T.m_len PySem.boot_len (pa_cons (pv 5) pa_nil)) pe_int (nomark _)) (pss_one (ps_ret (pe_tup (pa_cons (pv 4) (pa_cons (pe_callTy (kc_tup (K := K) rfl) (by rfl) T.m_tuple (by decide +kernel) (pa_cons (pe_lc (own := [("number", 8), ("row", 9)]) (by rfl) scPeel.nd (kp_list (K := K) rfl (pv 3)) (blkOk_by (by kernel_rfl)) (fun _ _ _ _ _ => (kg_tup (K := K) (n := 2) rfl rfl (pgs_cons (pg_name (i := 8) scPeel.nd rfl (by first | exact Or.inl rfl | exact Or.inr rfl)) (pgs_cons (pg_name (i := 9) scPeel.nd rfl (by first | exact Or.inl rfl | exact Or.inr rfl)) pgs_nil)))) (fun _ _ _ _ _ => pts_nil) (fun _ _ _ _ _ => (pv 8))) pa_nil)) pa_nil))))) pss_nil)
    (pss_cons (ps_set (i := 6) scPeel.nd rfl (by first | exact Or.inl rfl | exact Or.inr rfl) (pe_cal C_kinds_at hr (pa_cons (pe_ix (kx_list (K := K) rfl) (pv 5) pe_int (fun _ _ => rfl)) (pa_cons (pe_lc (own := [("number", 8), ("row", 9)]) (by rfl) scPeel.nd (kp_list (K := K) rfl (pv 3)) (blkOk_by (by kernel_rfl)) (fun _ _ _ _ _ => (kg_tup (K := K) (n := 2) rfl rfl (pgs_cons (pg_name (i := 8) scPeel.nd rfl (by first | exact Or.inl rfl | exact Or.inr rfl)) (pgs_cons (pg_name (i := 9) scPeel.nd rfl (by first | exact Or.inl rfl | exact Or.inr rfl)) pgs_nil)))) (fun _ _ _ _ _ => pts_nil) (fun _ _ _ _ _ => (pv 9))) pa_nil))))
    (pss_cons (ps_expr (ke_bm (K := K) rfl (pe_bm PySem.F.plainAttrs_list PySem.F.slot_list_append PySem.F.type_list_append mt_append (pv 4) (pa_cons (pe_tup (pa_cons (pe_ifExp (pt_cmpR op_gt (pe_callB (kc_len (K := K) rfl) (by rfl) T.m_len PySem.boot_len (pa_cons (pv 6) pa_nil)) pe_int (nomark _)) (pe_ix (kx_tup (K := K) rfl) (pv 6) pe_int (fun _ _ => rfl)) (pe_glob (v := .str "sum") rfl T.c_SUM.choose_spec ⟨_, rfl⟩)) (pa_cons (pe_ix (kx_list (K := K) rfl) (pv 5) pe_int (fun _ _ => rfl)) pa_nil))) pa_nil))))
    (pss_cons (ps_expr (ke_bm (K := K) rfl (pe_bm PySem.F.plainAttrs_list PySem.F.slot_list_remove PySem.F.type_list_remove mt_removeS (pv 2) (pa_cons (pe_ix (kx_list (K := K) rfl) (pv 5) pe_int (fun _ _ => rfl)) pa_nil))))
    (pss_one (ps_set (i := 3) scPeel.nd rfl (by first | exact Or.inl rfl | exact Or.inr rfl) (pe_lc (own := [("number", 8), ("row", 9)]) (by rfl) scPeel.nd (kp_list (K := K) rfl (pv 3)) (blkOk_by (by kernel_rfl)) (fun _ _ _ _ _ => (kg_tup (K := K) (n := 2) rfl rfl (pgs_cons (pg_name (i := 8) scPeel.nd rfl (by first | exact Or.inl rfl | exact Or.inr rfl)) (pgs_cons (pg_name (i := 9) scPeel.nd rfl (by first | exact Or.inl rfl | exact Or.inr rfl)) pgs_nil)))) (fun _ _ _ _ _ => (pts_one (pt_cmpR (ko_notIn (K := K) rfl) (pe_ix (kx_list (K := K) rfl) (pv 5) pe_int (fun _ _ => rfl)) (pe_ix (kx_tup (K := K) rfl) (pv 9) pe_int (fun _ _ => rfl)) (by with_unfolding_all rfl)))) (fun _ _ _ _ _ => (pe_tup (pa_cons (pv 8) (pa_cons (pv 9) pa_nil))))))))))))))), ?_⟩
  intro H B vs Ps P0 hs hp ⟨tags, rows, d, A, hP, hA, d1, d2, d3, d4, ht, hrl, hP0⟩ D q
  subst hP hP0
  obtain ⟨lv, av, rfl, h0, h1⟩ := two_at hp
  refine q_three (Pb := LiP K ((numbered rows).map (nrP K))) (tags := tags) (at0 hs) (ev_var (i := 0) rfl h0) hA (fun l o hl => ?enum) fun a f rv B1 H1 t1 s1 haS ha0 hfS hf0 hrv => ?_
  case enum =>
    refine ev_lo ((ev_listEnum (Ps := rows.map fun r => DD K (eRow r)) ((ev_fn (ea_cons (ev_var (i := 1) rfl h1) ea_nil) ⟨d, rfl, d1, d2, d3, rfl⟩).imp fun v B' hv => tt_rows (by rw [← d4]; exact hv)) (by rw [List.length_map]; omega)).to (congrArg (LoP K) (enum_eq rows)))
  refine s_while (fun m u k σ B => ∃ (rest : List Str) (rws : List NRow) (found : List (Str × Str)) (fv : List V) (rv : V) (x5 x6 : Option V), u = wl (wl w0 a (.lst (rest.map V.str))) f (.lst fv) ∧ m = rest.length ∧ rws.length < 64 ∧ found.length + rest.length = tags.length ∧ peelF (rest.length + 1) rest rws found = peeledF tags rows ∧ (LiP K (rws.map (nrP K))).p rv B ∧ PsAt fv (found.map fun p => DD K (eSS p)) B ∧ σ = [some lv, some av, some (.ref a), some rv, some (.ref f), x5, x6, none, none, none]) tags.length t1 ⟨tags, numbered rows, [], [], rv, _, _, rfl, rfl, by rw [numbered_len]; exact hrl, by rw [List.length_nil]; omega, rfl, hrv, .nil, rfl⟩ ?_
  rintro m u k σ' B2 H2 s2 t2 ⟨rest, rws, found, fv, rv, x5, x6, rfl, rfl, hrw, hlen, hfix, hrv2, hfv, rfl⟩
  have fr : ∀ o1 o2, Free (wl (wl w0 a o1) f o2) := fun _ _ => free_wl (free_wl free_w0)
  refine q_asg (i := 5) (m := k) (P := LoP K ((freeOf rest rws).map fun x => dS K x)) t2 ((ev_lc (K := K) (c := 0) (xs := rest) (fun x => decide ((kindsAt x (rws.map (·.2))).length < 2)) (fun x => dS K x) (es_listW (w := wl (wl w0 a (.lst (rest.map V.str))) f (.lst fv)) (n := k) (i := 2) (Y := dS K) rfl (fun k H h => h.1.2) (ps_strs rest)) (by omega) ?free).f (fr _ _)) fun frv B3 H3 t3 s3 hfr => ?_
  case free =>
    intro x v B3 l hx s3 hv
    refine ⟨_, tg_name, rfl, EvT.f (n := l) (m := l + rws.length * 0) (fr _ _) (et_test (K := K) ((ev_op (ev_cb (ea_cons ((ev_fn (ea_cons (ev_var (i := 7) rfl hv) (ea_cons ((ev_lo (ev_lc1 (K := K) (c := 0) (xs := rws) (fun r : NRow => DD K (eRow r.2)) (es_list (Y := nrP K) (ev_var (i := 3) rfl (Pr.up hrv2 s3))).s (by omega) fun r v2 B9 l2 hr s9 hv2 => by
      obtain ⟨pa, u1, u2, rfl, hT, e1, e2⟩ := two_of hv2
      exact ⟨_, tg_two hT, rfl, ev_var (i := 9) rfl e2⟩)).to (P' := LiP K ((rws.map (·.2)).map fun r => DD K (eRow r))) (by rw [List.map_map] <;> rfl)) ea_nil)) ⟨x, rws.map (·.2), rfl, by rw [List.length_map]; exact hrw, rfl⟩).imp fun v B' hv => tt_strs hv) ea_nil) rc_lenT) (ev_int (K := K)) rv_I0b).to (congrArg (dB K) (by rw [List.length_map]; exact decide_eq_decide.mpr (by omega))))), fun _ => ev_var (i := 7) rfl hv⟩
  refine q_when (m := k) (b := decide ((freeOf rest rws).length = 0)) t3 (et_test (K := K) ((ev_op (ev_cb (ea_cons (ev_lo (ev_var (i := 5) rfl hfr)) ea_nil) rc_lenL) (ev_int (K := K)) rv_eqI).to (congrArg (dB K) (by rw [List.length_map]; exact decide_eq_decide.mpr (by omega))))) (fun hb B4 H4 t4 s4 => ?_) fun hb B4 H4 t4 s4 => ?_
  · have hnil : freeOf rest rws = [] := List.eq_nil_of_length_eq_zero (of_decide_eq_true hb)
    have hres : peeledF tags rows = (found, rws) := by
      rw [← hfix]
      unfold peelF
      rw [hnil]
    rw [hres] at q
    have t5 := t4.less (hfS _) hf0
    have s5 := same_new (o := .lst fv) t4.outB
    have hf : (LiP K (found.map fun p => DD K (eSS p))).p (.ref f) (upd B4 f (.lst fv)) := ⟨f, fv, rfl, sl_of upd_same, psAt_same ((s3.trans s4).trans s5) hfv⟩
    have hr5 : (LiP K (rws.map (nrP K))).p rv (upd B4 f (.lst fv)) := Pr.up hrv2 ((s3.trans s4).trans s5)
    refine s_ret (m := k) (P := TuP K [LiP K (found.map fun p => DD K (eSS p)), TuP K (rws.map fun r => dI K (r.1 : Int))]) t5 (ev_tup (K := K) (ea_cons (ev_var (i := 4) rfl hf) (ea_cons (ev_cb (ea_cons (ev_lo (Ev.f (n := k) (m := k + rws.length * 0) (free_wl free_w0) (ev_lc1 (K := K) (c := 0) (xs := rws) (fun r : NRow => dI K (r.1 : Int)) (es_list (Y := nrP K) (ev_var (i := 3) rfl hr5)).s (by omega) fun r v2 B5 l2 hr s6 hv2 => ?num))) ea_nil) rc_tupL) ea_nil))) fun v B' H' t s hv => q _ v B' H' t.drop hv
    case num =>
      obtain ⟨pa, u1, u2, rfl, hT, e1, e2⟩ := two_of hv2
      exact ⟨_, tg_two hT, rfl, ev_var (i := 8) rfl e1⟩
  · obtain ⟨x, xs, hfree⟩ : ∃ x xs, freeOf rest rws = x :: xs := by
      cases e : freeOf rest rws with
      | nil => rw [e] at hb; cases hb
      | cons x xs => exact ⟨x, xs, rfl⟩
    have hxr : x ∈ rest := by
      have z : x ∈ freeOf rest rws := by rw [hfree]; exact List.mem_cons_self
      exact (List.mem_filter.mp z).1
    have hx0 : ∀ {σ : L2.St} {w : Wd} {n : Nat} {B' : Hp}, σ[5]? = some (some frv) → Same B3 B' → Ev w n n (tOp (rIxL K) (tVar 5) (tC (.int 0))) σ B' (dS K x) := fun e s => ev_op (ev_lo (ev_var e (Pr.up hfr s))) ev_int (rv_ixL (by rw [hfree]; exact atI_zero _ _))
    refine q_asg (i := 6) (m := k) (P := DD K (eTS (kindsAt x (rws.map (·.2))))) t4 (Ev.f (n := k) (m := k + rws.length * 0) (fr _ _) (ev_fn (ea_cons (hx0 rfl s4) (ea_cons ((ev_lo (ev_lc1 (K := K) (c := 0) (xs := rws) (fun r : NRow => DD K (eRow r.2)) (es_list (Y := nrP K) (ev_var (i := 3) rfl (Pr.up hrv2 (s3.trans s4)))).s (by omega) fun r v2 B9 l2 hr s9 hv2 => by
      obtain ⟨pa, u1, u2, rfl, hT, e1, e2⟩ := two_of hv2
      exact ⟨_, tg_two hT, rfl, ev_var (i := 9) rfl e2⟩)).to (P' := LiP K ((rws.map (·.2)).map fun r => DD K (eRow r))) (by rw [List.map_map] <;> rfl)) ea_nil)) ⟨x, rws.map (·.2), rfl, by rw [List.length_map]; exact hrw, rfl⟩)) fun kv B5 H5 t5 s5 hkv => ?_
    have hfl : fv.length = found.length := by rw [ps_len hfv, List.length_map]
    obtain ⟨hk, ehk⟩ : ∃ hk : Str, hk = (kindsAt x (rws.map (·.2))).headD "sum" := ⟨_, rfl⟩
    refine q_app (i := 4) (m := k) (P := DD K (eSS (hk, x))) t5 (hfS _) hf0 rfl (by omega) ((ev_tup (K := K) (ea_cons (P := dS K hk) ?kd (ea_cons (hx0 rfl (s4.trans s5)) ea_nil))).imp fun _ _ z => tt_dd (ds := [.str hk, .str x]) z) fun pv B6 H6 t6 s6 hpv => ?_
    case kd =>
      rw [ehk]
      refine ev_if (m := k) (b := decide (0 < (kindsAt x (rws.map (·.2))).length)) (et_test (K := K) ((ev_op (ev_cb (ea_cons (ev_var (i := 6) rfl (tt_strs hkv)) ea_nil) rc_lenT) (ev_int (K := K)) rv_I0b).to (congrArg (dB K) (by rw [List.length_map]; exact decide_eq_decide.mpr (by omega))))) (fun hb2 => ?_) fun hb2 => ?_
      · refine ev_op (ev_var (i := 6) rfl (tt_strs hkv)) ev_int (rv_ixT ?_)
        cases e : kindsAt x (rws.map (·.2)) with
        | nil => rw [e] at hb2; cases hb2
        | cons y ys => exact atI_zero _ _
      · have z : kindsAt x (rws.map (·.2)) = [] := List.eq_nil_of_length_eq_zero (by have y := of_decide_eq_false hb2; omega)
        rw [z]
        exact ev_str
    have haf : ∀ o, ¬ (wl w0 f o).S a := by
      rintro o (e | e)
      · exact e
      · exact hfS (.lst []) (.inr e.symm)
    refine q_rem (i := 2) (m := k) (k := x) t6.swap (haf _) ha0 rfl hxr (hx0 rfl ((s4.trans s5).trans s6)) fun B7 H7 t7 s7 => ?_
    have s37 := ((s4.trans s5).trans s6).trans s7
    refine s_asg (i := 3) (m := k) (P := LoP K ((without x rws).map (nrP K))) t7.swap (Ev.f (n := k) (m := k + rws.length * 0) (fr _ _) (ev_lc (K := K) (c := 0) (xs := rws) (fun r => !decide (x ∈ r.2.1)) (nrP K) (es_list (Y := nrP K) (ev_var (i := 3) rfl (Pr.up hrv2 (s3.trans s37)))).s (by omega) ?wo)) fun rv3 B8 H8 t8 s8 hrv3 => ?_
    case wo =>
      intro r v2 B9 l2 hr s9 hv2
      have hv3 := hv2
      obtain ⟨pa, u1, u2, rfl, hT, e1, e2⟩ := two_of hv2
      obtain ⟨pb, w1, w2, rfl, hT2, g1, g2⟩ := two_row e2
      refine ⟨_, tg_two hT, rfl, et_test (K := K) (ev_op (hx0 rfl (s37.trans s9)) (ev_op (ev_var (i := 9) rfl (dd_tt e2)) ev_int (rv_ixT (P := DD K (eTS r.2.1)) rfl) |>.imp fun v B' hv => tt_strs hv) rv_inT), fun _ => (ev_tup (K := K) (ea_cons (ev_var (i := 8) rfl e1) (ea_cons (ev_var (i := 9) rfl e2) ea_nil)))⟩
    have hel : (rest.erase x).length + 1 = rest.length := by
      rw [List.length_erase_of_mem hxr]
      have z := List.length_pos_of_mem hxr
      omega
    refine ⟨(rest.erase x).length, _, k, B8, by omega, t8, ((s2.trans s3).trans s37).trans s8, rest.erase x, without x rws, found ++ [(hk, x)], fv ++ [pv], rv3, _, _, rfl, rfl, ?_, ?_, ?_, lo_li hrv3, ?_, rfl⟩
    · have z := List.length_filter_le (fun r : NRow => !decide (x ∈ r.2.1)) rws
      unfold without
      omega
    · rw [List.length_append, List.length_singleton]
      omega
    · rw [hel, ← hfix, ehk]
      show _ = peelF (rest.length + 1) rest rws found
      conv => rhs; unfold peelF
      rw [hfree]
    · rw [List.map_append]
      refine ps_snoc (psAt_same ((((s3.trans s4).trans s5).trans s6).trans (s7.trans s8)) hfv) ?_
      exact Pr.up hpv (s7.trans s8)
end
end Pk


set_option Elab.async false
set_option linter.all false
set_option maxRecDepth 100000
set_option maxHeartbeats 4000000
/-! PkF21: refuting. -/
namespace Pk
open PySem PySem.Spec PyProof.Rows L2 PkH PySem.W
/-- a def that is called by its name, and where it stands -/
def CalF (P : Program) (w : World) (K : PySem.W.Frag) (mg : Str → Option Value) (base : Heap) (k : Nat) (x qual : Str) (st : Stmt) (ps : List Str) (sp : Sp) : Prop := ∃ f fd, FnOk P w K mg base CX0 k f fd ps sp ∧ mg x = some (.ref f) ∧ PySem.W.keepIn K (.ref f) = true ∧ Binds K fd ps [] ∧ FnP K x qual st f fd
theorem CalF.cal {P : Program} {w : World} {K : PySem.W.Frag} {mg : Str → Option Value} {base : Heap} {k : Nat} {x qual : Str} {st : Stmt} {ps : List Str} {sp : Sp} (c : CalF P w K mg base k x qual st ps sp) : Cal P w K mg base k x ps sp := by
  obtain ⟨f, fd, h1, h2, h3, h4, _⟩ := c
  exact ⟨f, fd, h1, h2, h3, h4⟩
theorem calF_of {P : Program} {w : World} {K : PySem.W.Frag} {mg : Str → Option Value} {base : Heap} {x qual : Str} {st : Stmt} {f : Addr} {fd : FuncData} {N ps : List Str} {k : Nat} {G : List Pr → Pr → Prop} (F : FnP K x qual st f fd) (g : mg x = some (.ref f)) (S : FnScope N ps (defScope st))
    (hl : ∀ Ps P, G Ps P → Ps.length = ps.length)
    (hb : ∀ (kV doc pm : Value) (an : Option Addr) (cdv ct : Value) (us : List Value), us.length = ps.length → bindArgs (PySem.W.fnOf x qual (defArgs st) (defBody st) (defScope st) .none kV doc pm an cdv ct) ⟨us, []⟩ = pure (ps.zip us))
    (body : ∀ (cdv : Value) (A : Around) (outer : List Env) (s : Shared) (H : Hp) (E : XK), Room k (A.deeper (envOfC qual (defScope st) s.heap.objs.size f cdv)) →
      ∃ t, PSs (cxOf CX0 P w K mg base N qual (defScope st) f cdv A outer s H E) (defBody st) t ∧ ∀ H B vs Ps P0, Same B H → PsAt vs Ps B → G Ps P0 → ∀ D : Ends, (∀ n v B' H', At (fun _ => False) w0 n B H B' H' → P0.p v B' → D.rt v H') → t D (start N vs) H) :
    CalF P w K mg base (k + 1) x qual st ps (spF G) := by
  refine ⟨f, fd, F.ok S (spF_len hl) fun cdv A o s H vs Q E hr h => ?_, g, F.kp, F.bindsN hb, F⟩
  obtain ⟨t, ht, hq⟩ := body cdv A o s H E hr
  exact ⟨t, ht, spF_body h fun B Ps P0 hs hp hG D q => hq H B vs Ps P0 hs hp hG D q⟩
def refF (tags : List Str) (rows : List (List Str × Str)) : List Nat := (peeledF tags rows).2.map (·.1)
def GRef (K : PySem.W.Frag) (N : Nat) : List Pr → Pr → Prop := fun Ps P => ∃ (tags : List Str) (rows : List (List Str × Str)) (d : PyData) (A : Pr), Ps = [A, DD K d] ∧ (A = LiP K (tags.map (dS K)) ∨ A = TuP K (tags.map (dS K))) ∧ noDict d = true ∧ wide d ∧ lev d ≤ N ∧ tupD d = eRows rows ∧ tags.length < 64 ∧ rows.length < 64 ∧
  P = DD K (orNone (refF tags rows))
theorem scRef : FnScope ["labels", "answers", "left"] ["labels", "answers"] (defScope (top 48)) := ⟨rfl, rfl, rfl, by decide +kernel, rfl, by decide +kernel, by decide +kernel⟩
section
variable {P : Program} {w : World} {K : PySem.W.Frag} {mg : Str → Option Value} {base : Heap}
theorem calRefF (T : Txt K mg) (N : Nat) : CalF P w K mg base (N + 4) "refuting" "refuting" (top 48) ["labels", "answers"] (spF (GRef K N)) := by
  obtain ⟨fd, F⟩ := T.f_refuting
  have C_peeled := calPeel (P := P) (w := w) (base := base) T N
  refine calF_of (k := N + 3) F T.g_refuting scRef (fun Ps P ⟨_, _, _, _, e, _⟩ => by rw [e] <;> rfl) (fun _ _ _ _ _ _ us hl => match us, hl with | [_, _], _ => rfl) fun cdv A o s H E hr => ?_
  refine ⟨_, (pss_cons (ps_set (i := 2) scRef.nd rfl (by first | exact Or.inl rfl | exact Or.inr rfl) (pe_ix (kx_tup (K := K) rfl) (pe_cal C_peeled hr (pa_cons (pv 0) (pa_cons (pv 1) pa_nil))) pe_int (fun _ _ => rfl)))
    (pss_one (ps_ret (pe_ifExp (pt_cmpR op_gt (pe_callB (kc_len (K := K) rfl) (by rfl) T.m_len PySem.boot_len (pa_cons (pv 2) pa_nil)) pe_int (nomark _)) (pv 2) pe_non)))), ?_⟩
  intro H B vs Ps P0 hs hp ⟨tags, rows, d, A, hP, hA, d1, d2, d3, d4, ht, hrl, hP0⟩ D q
  subst hP hP0
  obtain ⟨lv, av, rfl, h0, h1⟩ := two_at hp
  refine q_asg (m := 0) (P := TuP K ((peeledF tags rows).2.map fun r => dI K (r.1 : Int))) (at0 hs) (ev_op (ev_fn (ea_cons (ev_var (i := 0) rfl h0) (ea_cons (ev_var (i := 1) rfl h1) ea_nil)) ⟨tags, rows, d, A, rfl, hA, d1, d2, d3, d4, ht, hrl, rfl⟩) (ev_int (K := K)) (rv_ixT rfl)) fun v B1 H1 t1 s1 hv => ?_
  refine s_ret (m := 0) (P := DD K (orNone (refF tags rows))) t1 (ev_if (m := 0) (b := decide (0 < (refF tags rows).length)) (et_test (K := K) ((ev_op (ev_cb (ea_cons (ev_var (i := 2) rfl hv) ea_nil) rc_lenT) (ev_int (K := K)) rv_I0b).to (congrArg (dB K) (by unfold refF; rw [List.length_map, List.length_map]; exact decide_eq_decide.mpr (by omega))))) (fun hb => ?a) fun hb => ?b) fun v B' H' t s hv => q _ v B' H' t hv
  case a =>
    cases e : refF tags rows with
    | nil => rw [e] at hb; cases hb
    | cons x xs =>
      refine (ev_var (i := 2) rfl hv).imp fun v B' hv => ?_
      have z : (peeledF tags rows).2.map (fun r => dI K (r.1 : Int)) = (refF tags rows).map fun k : Nat => dI K (k : Int) := by
        unfold refF
        rw [List.map_map] <;> rfl
      rw [z, e] at hv
      exact map_tt (f := fun k : Nat => PyData.int (k : Int)) hv
  case b =>
    have z : refF tags rows = [] := List.eq_nil_of_length_eq_zero (by have y := of_decide_eq_false hb; omega)
    rw [z]
    exact ev_non
theorem calRef (T : Txt K mg) (N : Nat) : Cal P w K mg base (N + 4) "refuting" ["labels", "answers"] (spF (GRef K N)) := (calRefF T N).cal
end
end Pk


set_option Elab.async false
set_option linter.all false
set_option maxRecDepth 100000
set_option maxHeartbeats 4000000
/-! Pk20: o.f as a target. -/
namespace Pk
open PySem PySem.Spec PyProof.Rows L2 PkH
def gFld (K : PySem.W.Frag) (ta : TE) (f : Str) : TG := fun y σ H Q => ta σ H fun x H2 => ∃ a C dx fs, x = .ref a ∧ H2 a = some (.ins C dx fs) ∧ Cls K C ∧ NoAttr K C f ∧ fs.length < 1000 ∧ Q σ (upd H2 a (.ins C dx (putF f y fs)))
section
variable {X : Cx} {o : Expr} {f : Str} {pos : Pos} {ta : TE}
theorem pg_fld (ha : PE X o ta) : PG X (.Attribute o f pos) (gFld X.K ta f) := by
  refine ⟨fun pins s σ H v u Q I r h => ?_⟩
  rw [assign_Attribute]
  refine wpAny_bind (wpAny_holding (thn (ha.run pins s σ H _ I h) fun ov s2 ⟨x, H2, I2, rx, a, C, dx, fs, ex, ea, c, n, l, q2⟩ => ?_))
  subst ex
  obtain rfl : ov = Value.ref a := rx
  exact wpAny_bind (wpAny_standAt (wpAny_bind (wpAny_holding (setattr_ok I2 ea c n l r fun s3 I3 => wpAny_release ⟨σ, _, I3, q2⟩))))
theorem kg_fld {K : PySem.W.Frag} (q : X.K = K) (ha : PE X o ta) : PG X (.Attribute o f pos) (gFld K ta f) := by subst q; exact pg_fld ha
end
end Pk


set_option Elab.async false
set_option linter.all false
set_option maxRecDepth 100000
set_option maxHeartbeats 4000000
/-! PkF22: Step: made, read. -/
namespace Pk
open PySem PySem.Spec PyProof.Rows L2 PkH PySem.W
abbrev cS (K : PySem.W.Frag) : Addr := He.ga K "Step"
def fsS (k l : Str) : List (Str × V) := putF "own_label" (.str l) (putF "own_kind" (.str k) [])
/-- a step -/
def StP (K : PySem.W.Frag) (k l : Str) : Pr := ⟨fun v B => ∃ x dx, v = .ref x ∧ B x = some (.ins (cS K) dx (fsS k l)), fun v B B' s ⟨x, dx, e, h⟩ => ⟨x, dx, e, s x _ h⟩⟩
def spStep (K : PySem.W.Frag) : Sp := fun vs H Q _ => ∃ (B : Hp) (x dx : Addr) (k l : Str), vs = [.ref x, .str k, .str l] ∧ isK k ∧ okName l ∧ Same B H ∧ B x = none ∧ H x = some (.ins (cS K) dx []) ∧ ∀ B1 H1, Gr (fun a => a = x) B H B1 H1 → Same B1 H1 → B1 x = none → H1 x = some (.ins (cS K) dx (fsS k l)) → Q .non H1
section
variable {S0 : Addr → Prop} {w : Wd} {n m l : Nat} {K : PySem.W.Frag} {B0 H0 B H : Hp} {D : Ends} {σ : L2.St} {te : TE} {tz : TS} {a : Addr} {o o' : HO}
theorem at_own {x : Addr} (hs : Same B H) (hb : B x = none) (hx : H x = some o) : At (fun a => a = x) (wl w0 x o) 0 B H B H :=
  ⟨⟨hs, fun y s => s.elim False.elim fun e => by rw [e]; exact hb, ⟨True.intro, hx⟩⟩, Gr.refl, fun y s => .inl (s.elim False.elim id)⟩
/-- o.f, o.g = u, v of one's own -/
theorem s_two {i : Nat} {x C dx : Addr} {fs : List (Str × V)} {f g : Str} {P1 P2 : Pr} {ta : TA} (t : At S0 (wl w x (.ins C dx fs)) n B0 H0 B H) (hw : ¬ w.S x) (h0 : S0 x) (hi : σ[i]? = some (some (.ref x))) (hC : Cls K C) (hf : NoAttr K C f) (hg : NoAttr K C g) (hl : fs.length < 900)
    (h : EvA (wl w x (.ins C dx fs)) n m ta σ B [P1, P2]) (q : ∀ v1 v2 B' H', At S0 (wl w x (.ins C dx (putF g v2 (putF f v1 fs)))) m B0 H0 B' H' → Same B B' → P1.p v1 B' → P2.p v2 B' → D.nx σ H') :
    tAsg (tTup ta) (gTup K 2 (gCons (gFld K (tVar i) f) (gCons (gFld K (tVar i) g) gNil))) D σ H := by
  refine t.use (Q := fun xs H1 => xs.length ≤ sizeLine ∧ ∀ p, H1 p = none → gTup K 2 (gCons (gFld K (tVar i) f) (gCons (gFld K (tVar i) g) gNil)) (.ref p) σ (upd H1 p (.tup xs)) D.nx) (h B (Same.refl B)) fun vs B1 H1 t1 s1 hvs => ?_
  obtain ⟨v1, v2, rfl, h1, h2⟩ := two_at hvs
  refine ⟨Nat.le_of_ble_eq_true rfl, fun p hp => ?_⟩
  refine go_newT (K := K) (Ps := [VV v1, VV v2]) (.cons rfl (.cons rfl .nil)) H1 t1.c (fun v H2 => gTup K 2 (gCons (gFld K (tVar i) f) (gCons (gFld K (tVar i) g) gNil)) v σ H2 D.nx) (fun v B2 H2 g2 c2 hv => ?_) p hp
  obtain ⟨T2, us, rfl, hT2, hus⟩ := hv
  obtain ⟨u1, u2, rfl, e1, e2⟩ := two_at hus
  obtain rfl := e1
  obtain rfl := e2
  have t2 := t1.step g2 c2
  have t3 := t2.setS (o' := .ins C dx (putF f u1 fs)) hw h0
  have t4 := t3.setS (o' := .ins C dx (putF g u2 (putF f u1 fs))) hw h0
  have hl2 : (putF f u1 fs).length < 1000 := by
    have z : ∀ zs : List (Str × V), (putF f u1 zs).length ≤ zs.length + 1 := by
      intro zs
      induction zs with
      | nil => exact Nat.le_refl _
      | cons y ys ih =>
        unfold putF
        split
        · simp
        · rw [List.length_cons, List.length_cons]
          omega
    have y := z fs
    omega
  exact ⟨T2, _, rfl, sqT_same c2.sub hT2, rfl, _, _, rfl, .ref x, hi, x, C, dx, fs, rfl, t2.here, hC, hf, by omega, _, _, rfl, .ref x, hi, x, C, dx, _, rfl, t3.here, hC, hg, hl2, rfl, q _ _ B2 _ t4 (s1.trans g2.ex) (Pr.up h1 g2.ex) (Pr.up h2 g2.ex)⟩
end
theorem scStep : FnScope ["self", "kind", "label"] ["self", "kind", "label"] (defScope (inClass (top 35) 0)) := ⟨rfl, rfl, rfl, by decide +kernel, rfl, by decide +kernel, by decide +kernel⟩
section
variable {P : Program} {w : World} {K : PySem.W.Frag} {mg : Str → Option Value} {base : Heap}
/-- a method by its body -/
theorem fn_any {x qual : Str} {st : Stmt} {f : Addr} {fd : FuncData} {N ps : List Str} {k : Nat} {sp : Sp} (F : FnP K x qual st f fd) (S : FnScope N ps (defScope st))
    (hl : ∀ vs H Q E, sp vs H Q E → vs.length = ps.length)
    (body : ∀ (cdv : Value) (A : Around) (outer : List Env) (s : Shared) (H : Hp) (E : XK), Room k (A.deeper (envOfC qual (defScope st) s.heap.objs.size f cdv)) →
      ∃ t, PSs (cxOf CX0 P w K mg base N qual (defScope st) f cdv A outer s H E) (defBody st) t ∧ ∀ H vs Q, sp vs H Q E → t { nx := fun _ H' => Q .non H', rt := Q } (start N vs) H) :
    FnOk P w K mg base CX0 (k + 1) f fd ps sp := by
  refine F.ok S hl fun cdv A outer s H vs Q E hr h => ?_
  obtain ⟨t, ht, hq⟩ := body cdv A outer s H E hr
  exact ⟨t, ht, hq H vs Q h⟩
theorem okStep (T : Txt K mg) {fd : FuncData} (F : FnP K "__init__" "Step.__init__" (inClass (top 35) 0) (He.ma K (He.ga K "Step") "__init__") fd) : FnOk P w K mg base CX0 2 (He.ma K (He.ga K "Step") "__init__") fd ["self", "kind", "label"] (spStep K) := by
  have C_is_name := calName (P := P) (w := w) (base := base) T
  refine fn_any (k := 1) F scStep (fun vs H Q E ⟨_, _, _, _, _, e, _⟩ => by rw [e] <;> rfl) fun cdv A o s H E hr => ?_
  refine ⟨_, (pss_cons (ps_if (PW.pt (pw_or (pt_cmpR (ko_notIn (K := K) rfl) (pv 1) (pe_glob (v := .ref (He.ga K "KINDS")) rfl T.g_KINDS rfl) (by with_unfolding_all rfl)) (pw_or1 (pt_not (pt_val (pe_cal C_is_name hr (pa_cons (pv 2) pa_nil))))))) (pss_one ps_never) pss_nil)
    (pss_one (ps_asg (pe_tup (pa_cons (pv 1) (pa_cons (pv 2) pa_nil))) (kg_tup (K := K) (n := 2) rfl rfl (pgs_cons (kg_fld (K := K) rfl (pv 0)) (pgs_cons (kg_fld (K := K) rfl (pv 0)) pgs_nil)))))), ?_⟩
  rintro H vs Q ⟨B, x, dx, k, l, rfl, hk, hl, hs, hb, hx, q⟩
  have t0 := at_own hs hb hx
  have hks : decide (k ∈ (["sum", "max"] : List Str)) = true := decide_eq_true (by
    rcases hk with rfl | rfl
    · exact List.mem_cons_self
    · exact List.mem_cons_of_mem _ List.mem_cons_self)
  refine q_no (m := 0) t0 ((et_or (a := false) (b := false) (et_test (K := K) ((ev_op (ev_var (i := 1) rfl (Dp.str k)) (ev_c (P := TuP K ((["sum", "max"] : List Str).map (dS K))) ⟨_, _, rfl, T.t_KINDS _, ps_strs ["sum", "max"]⟩) (rv_inT (neg := true))).to (congrArg (dB K) (by rw [hks] <;> rfl)))) fun _ => (et_not (et_test (K := K) (ev_fn (ea_cons (ev_var (i := 2) rfl (Dp.str l)) ea_nil) ⟨l, rfl, hl, rfl⟩))).to rfl).to rfl) fun B1 H1 t1 s1 => ?_
  exact s_two (i := 0) (fs := []) (m := 0) (P1 := dS K k) (P2 := dS K l) t1 (fun z => z) rfl rfl T.cl_Step T.n_own_kind T.n_own_label (by decide) (ea_cons (ev_var (i := 1) rfl (Dp.str k)) (ea_cons (ev_var (i := 2) rfl (Dp.str l)) ea_nil)) fun v1 v2 B2 H2 t2 s2 h1 h2 => by
    obtain rfl := dd_str h1
    obtain rfl := dd_str h2
    exact q B2 H2 t2.g t2.c.sub t2.outB t2.here
end
end Pk


set_option Elab.async false
set_option linter.all false
set_option maxRecDepth 100000
set_option maxHeartbeats 4000000
/-! Pk21: objects are made. -/
namespace Pk
open PySem PySem.Spec PyProof.Rows L2 PkH
section
variable {w : Wd} {n m : Nat} {B H B3 H3 : Hp} {x dx C : Addr} {fs : List (Str × V)} {u1 u2 : HO}
theorem made_other {a : Addr} (h1 : a ≠ x) (h2 : a ≠ dx) : upd (upd H dx u1) x u2 a = H a := by rw [upd_ne h1, upd_ne h2]
/-- a new object, filled by its maker, put into the base -/
theorem made (c : Ctx w n B H) (hx : H x = none) (hd : H dx = none) (g : Gr (fun a => a = x) B (upd (upd H dx u1) x u2) B3 H3) (s3 : Same B3 H3) (hb : B3 x = none) {o : HO} (ho : H3 x = some o) :
    Gr w.S B H (upd B3 x o) H3 ∧ Ctx w n (upd B3 x o) H3 := by
  have ne1 : ∀ {a : Addr} {u : HO}, H a = some u → a ≠ x ∧ a ≠ dx := fun h => ⟨(fun e => Option.some_ne_none _ (h.symm.trans (e ▸ hx))), (fun e => Option.some_ne_none _ (h.symm.trans (e ▸ hd)))⟩
  have kp : ∀ a u, H a = some u → H3 a = some u := fun a u h => by
    obtain ⟨h1, h2⟩ := ne1 h
    exact g.keep a u h1 (by rw [made_other h1 h2]; exact h)
  refine ⟨⟨?_, fun a u _ h => kp a u h, ?_, ?_⟩, ?_, ?_, ?_⟩
  · intro a u h
    rw [upd_ne (ne_of_none (g.ex a u h) hb)]
    exact g.ex a u h
  · intro a h
    obtain ⟨u, e⟩ := ne_some h
    rw [kp a u e]
    exact Option.some_ne_none u
  · intro a h
    by_cases e : a = x
    · exact .inr (by rw [e]; exact hx)
    · rw [upd_ne e] at h
      rcases g.fr a h with z | z
      · exact .inl z
      · by_cases e2 : a = dx
        · exact .inr (by rw [e2]; exact hd)
        · rw [made_other e e2] at z
          exact .inr z
  · intro a u h
    by_cases e : a = x
    · rw [e, upd_same] at h
      rw [e, ho]
      exact h
    · rw [upd_ne e] at h
      exact s3 a u h
  · intro a ha
    obtain ⟨u, e⟩ := ne_some (w.has n H a c.wd ha)
    obtain ⟨h1, h2⟩ := ne1 e
    rw [upd_ne h1]
    cases e3 : B3 a with
    | none => rfl
    | some z =>
      rcases g.fr a (by rw [e3]; exact Option.some_ne_none z) with y | y
      · exact absurd (c.cl a ha) y
      · rw [made_other h1 h2, e] at y
        cases y
  · refine w.stab n H H3 (fun a ha => ?_) c.wd
    obtain ⟨u, e⟩ := ne_some (w.has n H a c.wd ha)
    rw [e]
    exact kp a u e
theorem ev_step {K : PySem.W.Frag} {σ : L2.St} {ta : TA} {E : XK} {k l : Str} (h : EvA w n m ta σ B [dS K k, dS K l]) (hk : isK k) (hl : okName l) : Ev w n m (tMake (cS K) (spStep K) [] E ta) σ B (StP K k l) := fun B1 s1 H c Q q =>
  h B1 s1 H c _ fun vs B2 H2 g2 c2 hvs => by
    obtain ⟨v1, v2, rfl, h1, h2⟩ := two_at hvs
    obtain rfl := dd_str h1
    obtain rfl := dd_str h2
    intro x dx hx hd hne
    refine ⟨B2, x, dx, k, l, rfl, hk, hl, fun a u e => ?_, c2.sub.free hx, upd_same, fun B3 H3 g3 s3 hb3 hx3 => ⟨rfl, ?_⟩⟩
    · have z := c2.sub a u e
      rw [upd_ne (ne_of_none z hx), upd_ne (ne_of_none z hd)]
      exact z
    · obtain ⟨g4, c4⟩ := made c2 hx hd g3 s3 hb3 hx3
      exact q (.ref x) _ H3 (g2.trans g4) c4 ⟨x, dx, rfl, upd_same⟩
end
end Pk


set_option Elab.async false
set_option linter.all false
set_option maxRecDepth 100000
set_option maxHeartbeats 4000000
/-! PkF23: Step: kind, label, text. -/
namespace Pk
open PySem PySem.Spec PyProof.Rows L2 PkH PySem.W
section
variable {w : Wd} {n m : Nat} {K : PySem.W.Frag} {B : Hp} {σ : L2.St} {ta : TE} {k l : Str} {P : Pr} {C : Addr} {E : XK}
theorem ev_fld {f : Str} {z : V} (h : Ev w n m ta σ B (StP K k l)) (hC : Cls K (cS K)) (hf : NoAttr K (cS K) f) (hz : (fsS k l).lookup f = some z) (hP : ∀ B, P.p z B) : Ev w n m (tFld K ta f) σ B P := fun B1 s1 H c Q q =>
  h B1 s1 H c _ fun v B2 H2 g2 c2 ⟨x, dx, e, hx⟩ => ⟨x, cS K, dx, fsS k l, z, e, c2.sub x _ hx, hC, hf, hz, q z B2 H2 g2 c2 (hP B2)⟩
theorem ev_propS {G : List Pr → Pr → Prop} (h : Ev w n m ta σ B (StP K k l)) (hG : G [StP K k l] P) : Ev w n m (tProp (cS K) (spF G) [] E ta) σ B P := fun B1 s1 H c Q q =>
  h B1 s1 H c _ fun v B2 H2 g2 c2 hv => by
    have hv0 := hv
    obtain ⟨x, dx, rfl, hx⟩ := hv
    exact ⟨x, dx, _, rfl, c2.sub x _ hx, go_fn (w := w) (n := m) (vs := [.ref x]) (.cons hv0 .nil) hG H2 c2 Q fun v B3 H3 g3 c3 p => q v B3 H3 (g2.trans g3) c3 p⟩
end
section
variable {P : Program} {w : World} {K : PySem.W.Frag} {mg : Str → Option Value} {base : Heap}
theorem fn_of {x qual : Str} {st : Stmt} {f : Addr} {fd : FuncData} {N ps : List Str} {k : Nat} {G : List Pr → Pr → Prop} (F : FnP K x qual st f fd) (S : FnScope N ps (defScope st)) (hl : ∀ Ps P, G Ps P → Ps.length = ps.length)
    (body : ∀ (cdv : Value) (A : Around) (outer : List Env) (s : Shared) (H : Hp) (E : XK), Room k (A.deeper (envOfC qual (defScope st) s.heap.objs.size f cdv)) →
      ∃ t, PSs (cxOf CX0 P w K mg base N qual (defScope st) f cdv A outer s H E) (defBody st) t ∧ ∀ H B vs Ps P0, Same B H → PsAt vs Ps B → G Ps P0 → ∀ D : Ends, (∀ n v B' H', At (fun _ => False) w0 n B H B' H' → P0.p v B' → D.rt v H') → t D (start N vs) H) :
    FnOk P w K mg base CX0 (k + 1) f fd ps (spF G) := by
  refine F.ok S (spF_len hl) fun cdv A outer s H vs Q E hr h => ?_
  obtain ⟨t, ht, hq⟩ := body cdv A outer s H E hr
  exact ⟨t, ht, spF_body h fun B Ps P0 hs hp hG D q => hq H B vs Ps P0 hs hp hG D q⟩
def GKindS (K : PySem.W.Frag) : List Pr → Pr → Prop := fun Ps P => ∃ k l, Ps = [StP K k l] ∧ P = dS K k
def GLabelS (K : PySem.W.Frag) : List Pr → Pr → Prop := fun Ps P => ∃ k l, Ps = [StP K k l] ∧ P = dS K l
def GTextS (K : PySem.W.Frag) : List Pr → Pr → Prop := fun Ps P => ∃ k l, Ps = [StP K k l] ∧ k.length ≤ 8 ∧ l.length ≤ 8 ∧ P = dS K (k ++ " " ++ l)
theorem scSKind : FnScope ["self"] ["self"] (defScope (inClass (top 35) 2)) := ⟨rfl, rfl, rfl, by decide +kernel, rfl, by decide +kernel, by decide +kernel⟩
theorem scSLabel : FnScope ["self"] ["self"] (defScope (inClass (top 35) 3)) := ⟨rfl, rfl, rfl, by decide +kernel, rfl, by decide +kernel, by decide +kernel⟩
theorem scSText : FnScope ["self"] ["self"] (defScope (inClass (top 35) 4)) := ⟨rfl, rfl, rfl, by decide +kernel, rfl, by decide +kernel, by decide +kernel⟩
theorem okSKind (T : Txt K mg) {fd : FuncData} (F : FnP K "kind" "Step.kind" (inClass (top 35) 2) (getAd "Step" "kind" K) fd) : FnOk P w K mg base CX0 1 (getAd "Step" "kind" K) fd ["self"] (spF (GKindS K)) := by
  refine fn_of (k := 0) F scSKind (fun Ps P ⟨_, _, e, _⟩ => by rw [e] <;> rfl) fun cdv A o s H E hr => ?_
  refine ⟨_, (pss_one (ps_ret (ke_fld (K := K) rfl (pe_fld (pv 0) rfl)))), ?_⟩
  intro H B vs Ps P0 hs hp ⟨k, l, hP, hP0⟩ D q
  subst hP hP0
  obtain ⟨v, rfl, h0⟩ := one_of hp
  exact s_ret (at0 hs) (ev_fld (ev_var (i := 0) rfl h0) T.cl_Step T.n_own_kind rfl fun B => Dp.str k) fun v B' H' a s hv => q _ v B' H' a hv
theorem okSLabel (T : Txt K mg) {fd : FuncData} (F : FnP K "label" "Step.label" (inClass (top 35) 3) (getAd "Step" "label" K) fd) : FnOk P w K mg base CX0 1 (getAd "Step" "label" K) fd ["self"] (spF (GLabelS K)) := by
  refine fn_of (k := 0) F scSLabel (fun Ps P ⟨_, _, e, _⟩ => by rw [e] <;> rfl) fun cdv A o s H E hr => ?_
  refine ⟨_, (pss_one (ps_ret (ke_fld (K := K) rfl (pe_fld (pv 0) rfl)))), ?_⟩
  intro H B vs Ps P0 hs hp ⟨k, l, hP, hP0⟩ D q
  subst hP hP0
  obtain ⟨v, rfl, h0⟩ := one_of hp
  exact s_ret (at0 hs) (ev_fld (ev_var (i := 0) rfl h0) T.cl_Step T.n_own_label rfl fun B => Dp.str l) fun v B' H' a s hv => q _ v B' H' a hv
theorem okSText (T : Txt K mg) {fd : FuncData} (F : FnP K "text" "Step.text" (inClass (top 35) 4) (getAd "Step" "text" K) fd) : FnOk P w K mg base CX0 1 (getAd "Step" "text" K) fd ["self"] (spF (GTextS K)) := by
  refine fn_of (k := 0) F scSText (fun Ps P ⟨_, _, e, _⟩ => by rw [e] <;> rfl) fun cdv A o s H E hr => ?_
  refine ⟨_, (pss_one (ps_ret (pe_op op_add_str (pe_op op_add_str (ke_fld (K := K) rfl (pe_fld (pv 0) rfl)) pe_str) (ke_fld (K := K) rfl (pe_fld (pv 0) rfl))))), ?_⟩
  intro H B vs Ps P0 hs hp ⟨k, l, hP, hk, hl, hP0⟩ D q
  subst hP hP0
  obtain ⟨v, rfl, h0⟩ := one_of hp
  have e1 : (" " : Str).length = 1 := by decide +kernel
  refine s_ret (at0 hs) (ev_op (ev_op (ev_fld (P := dS K k) (ev_var (i := 0) rfl h0) T.cl_Step T.n_own_kind rfl fun B => Dp.str k) (ev_str (K := K)) (rv_addS ?l1)) (ev_fld (P := dS K l) (ev_var (i := 0) rfl h0) T.cl_Step T.n_own_label rfl fun B => Dp.str l) (rv_addS ?l2)) fun v B' H' a s hv => q _ v B' H' a hv
  case l1 => omega
  case l2 =>
    rw [str_app_len]
    omega
end
end Pk


set_option Elab.async false
set_option linter.all false
set_option maxRecDepth 100000
set_option maxHeartbeats 4000000
/-! Pk22: != of two objects of a class with its own ==. -/
namespace Pk
open PySem PySem.Spec PyProof.Rows L2 PkH PySem.W
section
variable {prog : Program} {w : World} {A : Around} {E : Value → Shared → Prop} {s : Shared} {K : PySem.W.Frag} {x y C f : Addr} {ox : Obj} {od : Option Obj}
theorem objNe_K (X : K.In s.heap) (I : InstAt s.heap x ox C od) (hs : findIn K (.ref C) "__eq__" = some (some (.ref f))) (hf : isFn K (.ref f) = true) (hu : A.units < cLine) {Q : Fin → Shared → Prop}
    (hcall : wpAny (model prog w) A (call (.ref f) [.ref x, .ref y]) (fun v s' => ∃ b, v = .bool b ∧ Q (.done (.ret (.bool (!b)))) s') E s) :
    wpAny (model prog w) A (Builtin.«object.__ne__» ⟨[.ref x, .ref y], []⟩) Q E s := by
  obtain ⟨h, g, d, t, os⟩ := s
  unfold Builtin.«object.__ne__»
  repeat (first
    | with_reducible refine wpAny_cRoomFor hu ?_
    | (refine wpAny_bind (m := callSpecialIfBound? (.ref x) (Str.ofString "__eq__") [.ref y])
        (PySem.W.ifBound_K X I hs hf (wpAny_mono hcall (fun r s' hr => by
          obtain ⟨b, rfl, hq⟩ := hr
          repeat (first | exact hq | exact wpAny_pure hq | exact wpAny_truthy_bool hq | (refine wpAny_bind (m := truthy (.bool _)) (wpAny_truthy_bool ?_)) | wp_step)) fun _ _ e => e)))
    | wp_step)
theorem ne_K {Q : Value → Shared → Prop} (hu : A.units + 1 < cLine) (X : K.In s.heap) (I : InstAt s.heap x ox C od) (J : Looks (model prog w) s.heap (typeOf (.ref y)) (.ref C)) (hn : findIn K (.ref C) "__ne__" = some (some (.builtin "object.__ne__"))) (hp : plainOver K C = true)
    (hs : findIn K (.ref C) "__eq__" = some (some (.ref f))) (hf : isFn K (.ref f) = true)
    (hcall : wpAny (model prog w) A.in1 (call (.ref f) [.ref x, .ref y]) (fun v s' => ∃ b, v = .bool b ∧ Q (.bool (!b)) s') E s) : wpAny (model prog w) A (richCompare .NotEq (.ref x) (.ref y)) Q E s := by
  obtain ⟨cd, hc, ho⟩ := any_some hp
  have ne : cd.mro.isEmpty = false := by cases q : cd.mro with | nil => rw [q] at ho; cases ho | cons _ _ => rfl
  have sub : Looks (model prog w) s.heap (isInstance (.ref x) (.type "object")) true := I.type.andThen (looks_mroIn X (by unfold mroIn; rw [hc, Option.bind_some, if_neg (by rw [ne]; decide), only_has ho]))
  have bd : bindSpecial (.builtin "object.__ne__") (.ref x) = pure (.builtin "object.__ne__", [.ref x]) := F.cmp_object.ne.bind (.ref x)
  have one : wpAny (model prog w) A (tryCompare (.ref x) "__ne__" (.ref y)) (fun r s' => ∃ v, r = some v ∧ Q v s') E s := by
    unfold tryCompare
    simp only [callSpecialIfBound?, bindSpecialIfBound?]
    refine wpAny_bind (wpAny_holding (wpAny_bind (wpAny_bind (wpAny_bind (I.type.here ((looks_findIn X hn).here ?_))))))
    refine wpAny_bind (wpAny_askSetting (wpAny_ite ?_))
    have fin : wpAny (model prog w) A (call (.builtin "object.__ne__") ([.ref x] ++ [.ref y]) >>= fun v => pure (some v)) (fun r s' => wpAny (model prog w) A (match r with | some .notImplemented | none => pure none | some v => pure (some v)) (fun r s' => ∃ v, r = some v ∧ Q v s') E s') E s := by
      refine wpAny_bind (wpAny_call (codeAny_call_builtin F.cmp_object.ne.plain F.cmpEntry_ne (check_slot F.cmpKind_ne F.cmpSplit_ne sub (F.cmpArgs_ne _ _) (objNe_K (A := A.in1) X I hs hf hu (wpAny_mono hcall (fun v s' hv => ?_) fun _ _ e => e)))))
      obtain ⟨b, rfl, hq⟩ := hv
      exact ⟨b, rfl, wpAny_pure (wpAny_pure ⟨_, rfl, hq⟩)⟩
    split
    · rw [bd]
      exact wpAny_bind (wpAny_pure (wpAny_pure fin))
    · rw [bd]
      exact wpAny_tryCatch (wpAny_bind (wpAny_pure (wpAny_pure fin)))
  unfold richCompare
  simp only [oneThing_ref]
  refine wpAny_holding (wpAny_bind (wpAny_cRoomFor (Nat.lt_of_succ_lt hu) ?_))
  refine wpAny_bind (I.type.here (wpAny_bind (J.here ?_)))
  rw [show (Value.ref C != Value.ref C) = false from by simp]
  simp only [Bool.false_eq_true, if_false]
  refine wpAny_bind (wpAny_pure ?_)
  simp only [Bool.false_eq_true, if_false]
  refine wpAny_bind (wpAny_mono one (fun r s' z => ?_) fun _ _ e => e)
  obtain ⟨v, rfl, hq⟩ := z
  exact wpAny_pure hq
end
/-- != of two objects of the class at C, by its own == -/
def rNeO (C : Addr) (sp : Sp) : R2 := fun x y H Q => ∃ a b dx dy fs gs, x = .ref a ∧ y = .ref b ∧ H a = some (.ins C dx fs) ∧ H b = some (.ins C dy gs) ∧ sp [.ref a, .ref b] H (fun v H' => ∃ k, v = .bl k ∧ Q (.bl (!k)) H') E0
/-- .. or of two plain values -/
def rNeX (C : Addr) (sp : Sp) : R2 := fun x y H Q => rNe x y H Q ∨ rNeO C sp x y H Q
section
variable {X : Cx} {n : Nat} {C f : Addr} {fd : FuncData} {ps : List Str} {sp : Sp} {K : PySem.W.Frag}
theorem op_neO (F : FnOk X.prog X.w X.K X.mg X.base CX0 n f fd ps sp) (hm : Meth X.K C "__eq__" f) (hn : PySem.W.findIn X.K (.ref C) "__ne__" = some (some (.builtin "object.__ne__"))) (hC : Cls X.K C) (hb : Binds X.K fd ps []) (hr : Room (n + 1) X.A) : OpR X (compareOp .NotEq) (rNeO C sp) := by
  intro pins s σ H x y v u Q I rx ry hq
  obtain ⟨a, b, dx, dy, fs, gs, rfl, rfl, ha, hb', hsp⟩ := hq
  cases rx
  cases ry
  obtain ⟨mA, J, _⟩ := ins_get I.hok ha
  obtain ⟨mB, J', _⟩ := ins_get I.hok hb'
  obtain ⟨od, J, _⟩ := J.look
  obtain ⟨od', J', _⟩ := J'.look
  show wpAny (model X.prog X.w) X.A (richCompare .NotEq (.ref a) (.ref b)) (EP X pins σ Q) X.xe s
  refine ne_K (f := f) (by have := hr.units; omega) I.kIn J J'.type hn hC.po hm.at_ hm.fn ?_
  have hl := F.len _ _ _ _ hsp
  have r2 : Vals [V.ref a, V.ref b] [Value.ref a, Value.ref b] := .cons rfl (.cons rfl .nil)
  refine wpAny_call (codeAny_mono (F.run X.A.in1 X.stack s H ⟨[.ref a, .ref b], []⟩ [.ref a, .ref b] [.ref a, .ref b] _ E0 hr.in1 I.env0.in1 (by
    have := hb s [.ref a, .ref b] I.kIn (by simpa using hl)
    simpa using this) r2 hsp) fun r s' hq => ?_)
  cases r with
  | error e => exact pass0 pins σ H s e s' I hq
  | ok fl =>
    cases fl with
    | ret w =>
      obtain ⟨z, H', I', rz, k, ez, q⟩ := I.after hq
      subst ez
      cases rz
      exact ⟨k, rfl, .bl (!k), H', I', rfl, q⟩
    | next => exact False.elim hq
    | brk => exact False.elim hq
    | cont => exact False.elim hq
theorem op_neX (F : FnOk X.prog X.w X.K X.mg X.base CX0 n f fd ps sp) (hm : Meth X.K C "__eq__" f) (hn : PySem.W.findIn X.K (.ref C) "__ne__" = some (some (.builtin "object.__ne__"))) (hC : Cls X.K C) (hb : Binds X.K fd ps []) (hr : Room (n + 1) X.A) : OpR X (compareOp .NotEq) (rNeX C sp) := by
  intro pins s σ H x y v u Q I rx ry hq
  rcases hq with hq | hq
  · exact op_ne pins s σ H x y v u Q I rx ry hq
  · exact op_neO F hm hn hC hb hr pins s σ H x y v u Q I rx ry hq
end
end Pk


set_option Elab.async false
set_option linter.all false
set_option maxRecDepth 100000
set_option maxHeartbeats 4000000
/-! Pk23: properties by promises; one's own object while it is made. -/
namespace Pk
open PySem PySem.Spec PyProof.Rows L2 PkH
/-- a property of an own class -/
def PropAt (P : Program) (w : World) (K : PySem.W.Frag) (mg : Str → Option Value) (base : Heap) (k : Nat) (C : Addr) (f : Str) (sp : Sp) : Prop := ∃ p g fd, PropOf K C f p g ∧ FnOk P w K mg base CX0 k g fd ["self"] sp ∧ Binds K fd ["self"] [] ∧ Cls K C
section
variable {X : Cx} {k j : Nat} {C : Addr} {f : Str} {sp : Sp} {e : Expr} {pos : Pos} {ta : TE}
theorem PropAt.mono {P : Program} {w : World} {K : PySem.W.Frag} {mg : Str → Option Value} {base : Heap} (q : PropAt P w K mg base j C f sp) (h : j ≤ k) : PropAt P w K mg base k C f sp := by
  obtain ⟨p, g, fd, h1, h2, h3, h4⟩ := q
  exact ⟨p, g, fd, h1, h2.mono h, h3, h4⟩
theorem pe_prp (q : PropAt X.prog X.w X.K X.mg X.base k C f sp) (hr : Room (k + 1) X.A) (he : PE X e ta) (hab : attributeBase e f X.env (eval e X.env) = eval e X.env := by rfl) : PE X (.Attribute e f pos) (tProp C sp [] E0 ta) := by
  obtain ⟨p, g, fd, h1, h2, h3, h4⟩ := q
  exact pe_prop he h4 h1 h2 hr h3 .nil pass0 hab
end
section
variable {S0 : Addr → Prop} {w : Wd} {n m : Nat} {K : PySem.W.Frag} {B0 H0 B H : Hp} {D : Ends} {σ : L2.St} {te : TE} {tz : TS} {P : Pr} {x C dx : Addr} {fs : List (Str × V)} {f : Str} {i : Nat}
/-- o.f = e, o one's own -/
theorem q_fld (t : At S0 (wl w x (.ins C dx fs)) n B0 H0 B H) (hw : ¬ w.S x) (h0 : S0 x) (hi : σ[i]? = some (some (.ref x))) (hC : Cls K C) (hf : NoAttr K C f) (hl : fs.length < 900)
    (h : Ev (wl w x (.ins C dx fs)) n m te σ B P) (q : ∀ v B' H', At S0 (wl w x (.ins C dx (putF f v fs))) m B0 H0 B' H' → Same B B' → P.p v B' → tz D σ H') : tSeq (sFld K (tVar i) te f) tz D σ H :=
  t.use (Q := fun y H1 => tVar i σ H1 fun x H2 => ∃ a C dx fs, x = .ref a ∧ H2 a = some (.ins C dx fs) ∧ Cls K C ∧ NoAttr K C f ∧ fs.length < 1000 ∧ tz D σ (upd H2 a (.ins C dx (putF f y fs)))) (h B (Same.refl B)) fun v B1 H1 t1 s1 hv =>
    ⟨.ref x, hi, x, C, dx, fs, rfl, t1.here, hC, hf, by omega, q v B1 _ (t1.setS hw h0) s1 hv⟩
theorem s_fld (t : At S0 (wl w x (.ins C dx fs)) n B0 H0 B H) (hw : ¬ w.S x) (h0 : S0 x) (hi : σ[i]? = some (some (.ref x))) (hC : Cls K C) (hf : NoAttr K C f) (hl : fs.length < 900)
    (h : Ev (wl w x (.ins C dx fs)) n m te σ B P) (q : ∀ v B' H', At S0 (wl w x (.ins C dx (putF f v fs))) m B0 H0 B' H' → Same B B' → P.p v B' → D.nx σ H') : sFld K (tVar i) te f D σ H :=
  t.use (Q := fun y H1 => tVar i σ H1 fun x H2 => ∃ a C dx fs, x = .ref a ∧ H2 a = some (.ins C dx fs) ∧ Cls K C ∧ NoAttr K C f ∧ fs.length < 1000 ∧ D.nx σ (upd H2 a (.ins C dx (putF f y fs)))) (h B (Same.refl B)) fun v B1 H1 t1 s1 hv =>
    ⟨.ref x, hi, x, C, dx, fs, rfl, t1.here, hC, hf, by omega, q v B1 _ (t1.setS hw h0) s1 hv⟩
theorem ev_fldW {v : V} (hi : σ[i]? = some (some (.ref x))) (hC : Cls K C) (hf : NoAttr K C f) (hl : fs.lookup f = some v) (hv : P.p v B) : Ev (wl w x (.ins C dx fs)) n n (tFld K (tVar i) f) σ B P := fun B1 s1 H c Q q =>
  ⟨.ref x, hi, x, C, dx, fs, v, rfl, c.wd.2, hC, hf, hl, q v B1 H Gr.refl c (P.mono v B B1 s1 hv)⟩
end
end Pk


set_option Elab.async false
set_option linter.all false
set_option maxRecDepth 100000
set_option maxHeartbeats 4000000
/-! PkF24: Roll: made. -/
namespace Pk
open PySem PySem.Spec PyProof.Rows L2 PkH PySem.W
abbrev cR (K : PySem.W.Frag) : Addr := He.ga K "Roll"
def fsR (tv bv : V) : List (Str × V) := putF "own_blocks" bv (putF "own_steps" tv [])
def stpP (K : PySem.W.Frag) (p : Str × Str) : Pr := StP K p.1 p.2
/-- a roll-up: its steps in their order, its blocks -/
def RoP (K : PySem.W.Frag) (line : List (Str × Str)) : Pr := ⟨fun v B => ∃ x dx tv bv, v = .ref x ∧ B x = some (.ins (cR K) dx (fsR tv bv)) ∧ (TuP K (line.map (stpP K))).p tv B ∧ (DD K (eBlks (blocks line))).p bv B,
  fun v B B' s ⟨x, dx, tv, bv, e, h, h1, h2⟩ => ⟨x, dx, tv, bv, e, s x _ h, Pr.up h1 s, Pr.up h2 s⟩⟩
def okLine (line : List (Str × Str)) : Prop := (∀ p ∈ line, isK p.1 ∧ okName p.2) ∧ (line.map (·.2)).Nodup ∧ line.length < 64
def spRoll (K : PySem.W.Frag) : Sp := fun vs H Q _ => ∃ (B : Hp) (x dx : Addr) (v : V) (line : List (Str × Str)), vs = [.ref x, v] ∧ (LiP K (line.map (stpP K))).p v B ∧ okLine line ∧ Same B H ∧ B x = none ∧ H x = some (.ins (cR K) dx []) ∧
  ∀ B1 H1 tv bv, Gr (fun a => a = x) B H B1 H1 → Same B1 H1 → B1 x = none → (TuP K (line.map (stpP K))).p tv B1 → (DD K (eBlks (blocks line))).p bv B1 → H1 x = some (.ins (cR K) dx (fsR tv bv)) → Q .non H1
theorem scRoll : FnScope ["self", "steps", "names", "place", "name", "step"] ["self", "steps"] (defScope (inClass (top 41) 0)) := ⟨rfl, rfl, rfl, by decide +kernel, rfl, by decide +kernel, by decide +kernel⟩
theorem not_early {xs : List Str} (h : xs.Nodup) {i : Nat} {x : Str} (e : xs[i]? = some x) : x ∉ xs.take i := by
  intro hx
  obtain ⟨hi, rfl⟩ := List.getElem?_eq_some_iff.mp e
  obtain ⟨j, hj⟩ := List.mem_iff_getElem?.mp hx
  rw [List.getElem?_take] at hj
  split at hj
  · rename_i hlt
    obtain ⟨hj2, e2⟩ := List.getElem?_eq_some_iff.mp hj
    have z := (List.getElem?_inj (j := i) hj2 h).mp (by rw [hj, List.getElem?_eq_getElem hi])
    omega
  · cases hj
section
variable {P : Program} {w : World} {K : PySem.W.Frag} {mg : Str → Option Value} {base : Heap}
theorem propKind (T : Txt K mg) : PropAt P w K mg base 1 (cS K) "kind" (spF (GKindS K)) := by
  obtain ⟨fd, F⟩ := T.f_Step_kind
  exact ⟨_, _, fd, T.p_Step_kind, okSKind T F, F.bindsN fun _ _ _ _ _ _ us hl => match us, hl with | [_], _ => rfl, T.cl_Step⟩
theorem propLabel (T : Txt K mg) : PropAt P w K mg base 1 (cS K) "label" (spF (GLabelS K)) := by
  obtain ⟨fd, F⟩ := T.f_Step_label
  exact ⟨_, _, fd, T.p_Step_label, okSLabel T F, F.bindsN fun _ _ _ _ _ _ us hl => match us, hl with | [_], _ => rfl, T.cl_Step⟩
theorem propText (T : Txt K mg) : PropAt P w K mg base 1 (cS K) "text" (spF (GTextS K)) := by
  obtain ⟨fd, F⟩ := T.f_Step_text
  exact ⟨_, _, fd, T.p_Step_text, okSText T F, F.bindsN fun _ _ _ _ _ _ us hl => match us, hl with | [_], _ => rfl, T.cl_Step⟩
theorem okRoll (T : Txt K mg) {fd : FuncData} (F : FunD K "__init__" "Roll.__init__" (defArgs (inClass (top 41) 0)) (defBody (inClass (top 41) 0)) (defScope (inClass (top 41) 0)) [.ref (dflS K)] [] (He.ma K (He.ga K "Roll") "__init__") fd) :
    FnOk P w K mg base CX0 3 (He.ma K (He.ga K "Roll") "__init__") fd ["self", "steps"] (spRoll K) := by
  have C_stretches := calStr (P := P) (w := w) (base := base) T
  have Q_Step_label := propLabel (P := P) (w := w) (base := base) T
  have Q_Step_kind := propKind (P := P) (w := w) (base := base) T
  refine F.ok (k := 2) scRoll (fun vs H Q E ⟨_, _, _, _, _, e, _⟩ => by rw [e] <;> rfl) fun cdv A o s H vs Q E hr h => ?_
  refine ⟨_, (pss_cons (kst_fld (K := K) rfl (ps_fld (pv 0) (pe_callTy (kc_tup (K := K) rfl) (by rfl) T.m_tuple (by decide +kernel) (pa_cons (pv 1) pa_nil)) rfl))
    (pss_cons (ps_setLc (i := 2) (own := [("step", 5)]) (by rfl) scRoll.nd rfl rfl (sw_true rfl rfl rfl (by decide +kernel)) (kp_tup (K := K) rfl (ke_fld (K := K) rfl (pe_fld (pv 0) rfl))) (blkOk_by (by kernel_rfl)) (fun _ _ _ _ _ => (pg_name (i := 5) scRoll.nd rfl (by first | exact Or.inl rfl | exact Or.inr rfl))) (fun _ _ _ _ _ => pts_nil) (fun _ _ _ _ _ => (pe_prp Q_Step_label hr (pv 5))))
    (pss_cons (ps_for (passes_of rfl) rfl (kp_enum (K := K) rfl (pi_enum (by rfl) T.m_enumerate (pa_cons (pv 2) pa_nil))) (kg_tup (K := K) (n := 2) rfl rfl (pgs_cons (pg_name (i := 3) scRoll.nd rfl (by first | exact Or.inl rfl | exact Or.inr rfl)) (pgs_cons (pg_name (i := 4) scRoll.nd rfl (by first | exact Or.inl rfl | exact Or.inr rfl)) pgs_nil))) (pss_one (ps_if (pt_cmpR (ko_in (K := K) rfl) (pv 4) (pe_slice (ks_list (K := K) rfl) (pv 2) po_none (po_some (pv 3))) (by with_unfolding_all rfl)) (pss_one ps_never) pss_nil)))
    (pss_one (kst_fld (K := K) rfl (ps_fld (pv 0) (pe_cal C_stretches hr (pa_cons (pe_lc (own := [("step", 5)]) (by rfl) scRoll.nd (kp_tup (K := K) rfl (ke_fld (K := K) rfl (pe_fld (pv 0) rfl))) (blkOk_by (by kernel_rfl)) (fun _ _ _ _ _ => (pg_name (i := 5) scRoll.nd rfl (by first | exact Or.inl rfl | exact Or.inr rfl))) (fun _ _ _ _ _ => pts_nil) (fun _ _ _ _ _ => (pe_tup (pa_cons (pe_prp Q_Step_kind hr (pv 5)) (pa_cons (pe_prp Q_Step_label hr (pv 5)) pa_nil))))) pa_nil)) rfl)))))), ?_⟩
  obtain ⟨B, x, dx, v, line, rfl, hv, ⟨hok, hnd, hlen⟩, hs, hb, hx, q⟩ := h
  have t0 := at_own hs hb hx
  have fr : ∀ o, Free (wl w0 x o) := fun o => free_wl free_w0
  have hlab : ∀ {w : Wd} {n : Nat} {i : Nat} {σ : L2.St} {B : Hp} {p : Str × Str} {v : V}, σ[i]? = some (some v) → (stpP K p).p v B → Ev w n n (tProp (cS K) (spF (GLabelS K)) [] E0 (tVar i)) σ B (dS K p.2) := fun e hv => ev_propS (ev_var e hv) ⟨_, _, rfl, rfl⟩
  have hkind : ∀ {w : Wd} {n : Nat} {i : Nat} {σ : L2.St} {B : Hp} {p : Str × Str} {v : V}, σ[i]? = some (some v) → (stpP K p).p v B → Ev w n n (tProp (cS K) (spF (GKindS K)) [] E0 (tVar i)) σ B (dS K p.1) := fun e hv => ev_propS (ev_var e hv) ⟨_, _, rfl, rfl⟩
  refine q_fld (K := K) (m := 0) (i := 0) (P := TuP K (line.map (stpP K))) t0 (fun z => z) rfl rfl T.cl_Roll T.n_own_steps (by decide) (ev_cb (ea_cons (ev_var (i := 1) rfl hv) ea_nil) rc_tupL) fun tv B1 H1 t1 s1 htv => ?_
  refine q_asg (i := 2) (m := 0) (P := LoP K (line.map fun p => dS K p.2)) t1 (Ev.f (n := 0) (m := 0 + line.length * 0) (fr _) (ev_lc1 (K := K) (c := 0) (xs := line) (fun p => dS K p.2) (es_tup (Y := stpP K) (ev_fldW (i := 0) rfl T.cl_Roll T.n_own_steps rfl htv)).s (by omega) fun p v B3 l hp s3 hv => ⟨_, tg_name, rfl, hlab rfl hv⟩)) fun nv B2 H2 t2 s2 hnv => ?_
  have hnv2 : (LiP K ((line.map (·.2)).map (dS K))).p nv B2 := by
    rw [List.map_map]
    exact lo_li hnv
  refine q_for (fun i Bs u k σ B => ∃ v3 v4, u = wl w0 x (.ins (cR K) dx (putF "own_steps" tv [])) ∧ k = 0 ∧ σ = [some (.ref x), some v, some nv, v3, v4, none]) t2 (es_enum (xs := line.map (·.2)) (Y := dS K) (ea_cons (ev_var (i := 2) rfl hnv2) ea_nil)) (fun B3 s3 => ⟨_, _, rfl, rfl, rfl⟩) ?turn ?done
  case turn =>
    rintro i ⟨j, nm⟩ pv Bs u k σ' B3 B4 H4 hi s3 s4 ⟨v3, v4, rfl, rfl, rfl⟩ t4 s5 hp
    obtain ⟨e1, e2⟩ := List.getElem?_zip_eq_some.mp hi
    have ej : j = i := by
      obtain ⟨hlt, e⟩ := List.getElem?_eq_some_iff.mp e1
      rw [List.getElem_range] at e
      exact e.symm
    subst ej
    obtain ⟨pa, u1, u2, rfl, hT, g1, g2⟩ := two_of hp
    refine tg_two hT _ _ t4.c.sub ?_
    have s24 := (s3.trans s4).trans s5
    refine s_no (m := 0) t4 (et_test (K := K) ((ev_op (ev_var (i := 4) rfl g2) (ev_lo ((ev_sl (ev_var (i := 2) rfl (Pr.up hnv2 s24)) eo_none (eo_some (ev_var (i := 3) rfl g1)) rs_list).to (P' := LoP K (((line.map (·.2)).take j).map (dS K))) (congrArg (LoP K) (by rw [cut_to, List.map_take])))) rv_inL).to (congrArg (dB K) (decide_eq_false (not_early hnd e2))))) fun B5 H5 t5 s6 => ?_
    exact ⟨_, _, B5, t5, (s4.trans s5).trans s6, _, _, rfl, rfl, rfl⟩
  case done =>
    rintro Bs u k σ' B3 H3 s3 s4 t3 ⟨v3, v4, rfl, rfl, rfl⟩
    have s13 := (s2.trans s3).trans s4
    have htv3 := Pr.up htv s13
    refine s_fld (K := K) (m := 0) (i := 0) (P := DD K (eBlks (blocks line))) t3 (fun z => z) rfl rfl T.cl_Roll T.n_own_blocks (show 1 < 900 from by decide) (ev_fn (ea_cons (ev_lo (Ev.f (n := 0) (m := 0 + line.length * 0) (fr _) (ev_lc1 (K := K) (c := 0) (xs := line) (fun p => DD K (eSS p)) (es_tup (Y := stpP K) (ev_fldW (i := 0) rfl T.cl_Roll T.n_own_steps rfl htv3)).s (by omega) fun p v B5 l hp s5 hv => ?el))) ea_nil) ⟨line, rfl, hlen, fun p hp => (hok p hp).1, rfl⟩) fun bv B5 H5 t5 s5 hbv => q B5 H5 tv bv t5.g t5.c.sub t5.outB (Pr.up htv3 s5) hbv t5.here
    case el => exact ⟨_, tg_name, rfl, (ev_tup (K := K) (ea_cons (hkind (p := p) rfl hv) (ea_cons (hlab (p := p) rfl hv) ea_nil))).imp fun _ _ z => tt_dd (ds := [.str p.1, .str p.2]) z⟩
theorem bindRoll (T : Txt K mg) {fd : FuncData} (F : FunD K "__init__" "Roll.__init__" (defArgs (inClass (top 41) 0)) (defBody (inClass (top 41) 0)) (defScope (inClass (top 41) 0)) [.ref (dflS K)] [] (He.ma K (He.ga K "Roll") "__init__") fd) : Binds K fd ["self", "steps"] [] := by
  obtain ⟨ds, h1, h2⟩ := F.binds1 (ps := ["self", "steps"]) 2 1 (by simp) rfl fun TT kV doc pm an cdv ct us its hu hi => match us, its, hu, hi with | [_, _], [_], _, _ => ⟨_, rfl, rfl⟩
  cases h1
  exact h2
end
section
variable {w : Wd} {n m : Nat} {K : PySem.W.Frag} {B : Hp} {σ : L2.St} {ta : TA} {E : XK} {line : List (Str × Str)}
theorem ev_roll (h : EvA w n m ta σ B [LiP K (line.map (stpP K))]) (hl : okLine line) : Ev w n m (tMake (cR K) (spRoll K) [] E ta) σ B (RoP K line) := fun B1 s1 H c Q q =>
  h B1 s1 H c _ fun vs B2 H2 g2 c2 hvs => by
    obtain ⟨v, rfl, hv⟩ := one_of hvs
    intro x dx hx hd hne
    refine ⟨B2, x, dx, v, line, rfl, hv, hl, fun a u e => ?_, c2.sub.free hx, upd_same, fun B3 H3 tv bv g3 s3 hb3 h1 h2 hx3 => ⟨rfl, ?_⟩⟩
    · have z := c2.sub a u e
      rw [upd_ne (ne_of_none z hx), upd_ne (ne_of_none z hd)]
      exact z
    · obtain ⟨g4, c4⟩ := made c2 hx hd g3 s3 hb3 hx3
      have sn := same_new (o := .ins (cR K) dx (fsR tv bv)) hb3
      exact q (.ref x) _ H3 (g2.trans g4) c4 ⟨x, dx, tv, bv, rfl, upd_same, Pr.up h1 sn, Pr.up h2 sn⟩
end
end Pk


set_option Elab.async false
set_option linter.all false
set_option maxRecDepth 100000
set_option maxHeartbeats 4000000
/-! PkM: lines, plain lines, what is left: the mathematics. -/
namespace Pk
open PySem PySem.Spec PyProof.Rows L2 PkH PySem.W
theorem gath_nodup (xs : List Str) : (gath xs).Nodup := by
  have z : ∀ (xs l : List Str), l.Nodup → (xs.foldl inTo l).Nodup := by
    intro xs
    induction xs with
    | nil => intro l h; exact h
    | cons x xs ih =>
      intro l h
      refine ih _ ?_
      unfold inTo
      by_cases e : x ∈ l
      · rw [if_pos e]
        exact h
      · rw [if_neg e]
        exact List.nodup_cons.mpr ⟨e, h⟩
  exact z xs [] List.nodup_nil
theorem le_same (k a b : Str) : dataLe false eSS (k, a) (k, b) = leS a b := by
  show (!lexLt itemOrd [.inl 1, .inr k.cps.toList, .inl 1, .inr b.cps.toList, .inl 0] [.inl 1, .inr k.cps.toList, .inl 1, .inr a.cps.toList, .inl 0]) = leS a b
  rw [lex_self (O := itemOrd), lex_self (O := itemOrd), lex_self (O := itemOrd)]
  unfold leS lts
  have e : PyProof.Rows.lexLt itemOrd [.inr b.cps.toList, .inl 0] [.inr a.cps.toList, .inl 0] = ltCps b.cps.toList a.cps.toList := by
    by_cases h : b.cps.toList = a.cps.toList
    · rw [h, lex_self (O := itemOrd), ltc_irr]
      exact lex_irrefl (O := itemOrd) _
    · rw [lex_diff (O := itemOrd) (fun z => h (Sum.inr.inj z))]
      exact (ltCps_eq _ _).symm
  rw [e]
theorem sortP_eq (k : Str) (ls : List Str) : sortP (ls.map fun l => (k, l)) = (sortS ls).map fun l => (k, l) :=
  (sort_maps (r := leS) (s := dataLe false eSS) (fun l => (k, l)) (l := ls) fun a _ b _ => (le_same k a b).symm).symm
/-! ### lines: the outermost, plain lines are told by it -/
def outR (r : List (Str × Str)) (lot : List Str) : Str := ((r.filter fun p => decide (p.2 ∈ lot)).map (·.1)).headD "sum"
theorem outer_rev (l : List (Str × Str)) (lot : List Str) : outer l lot = outR l.reverse lot := by
  unfold outer outR
  rw [List.filter_reverse, List.map_reverse]
  generalize (l.filter fun p => decide (p.2 ∈ lot)).map (·.1) = xs
  rcases List.eq_nil_or_concat xs with rfl | ⟨ys, y, rfl⟩
  · rfl
  · simp
theorem outR_in {k x : Str} {r : List (Str × Str)} {lot : List Str} (h : x ∈ lot) : outR ((k, x) :: r) lot = k := by
  unfold outR
  simp [h]
theorem outR_out {k x : Str} {r : List (Str × Str)} {lot : List Str} (h : x ∉ lot) : outR ((k, x) :: r) lot = outR r lot := by
  unfold outR
  simp [h]
theorem not_two {a x y : Str} (h1 : a ≠ x) (h2 : a ≠ y) : a ∉ [x, y] := by simp [h1, h2]
/-- from the outermost inwards: equal kinds stand with falling labels -/
def fall : List (Str × Str) → Prop
  | p :: q :: r => (p.1 = q.1 → lts q.2 p.2 = true) ∧ fall (q :: r)
  | _ => True
theorem fall_tail {p : Str × Str} {r : List (Str × Str)} (h : fall (p :: r)) : fall r := by
  cases r with
  | nil => trivial
  | cons q r => exact h.2
theorem sep : ∀ (r : List (Str × Str)) (k x y : Str), fall ((k, x) :: r) → (k, y) ∈ r → lts x y = true → (((k, x) :: r).map (·.2)).Nodup →
    ∃ w ∈ r, w.1 ≠ k ∧ w.2 ≠ y ∧ w.2 ≠ x ∧ outR r [w.2, y] = w.1
  | [], _, _, _, _, h, _, _ => by cases h
  | (k2, x2) :: r, k, x, y, hf, hm, hl, hn => by
    have hn' : x ∉ ((k2, x2) :: r).map (·.2) ∧ (((k2, x2) :: r).map (·.2)).Nodup := List.nodup_cons.mp hn
    have hx2 : x2 ≠ x := fun e => hn'.1 (by rw [← e]; exact List.mem_cons_self)
    by_cases e : k = k2
    · subst e
      have hlt : lts x2 x = true := hf.1 rfl
      have h2 : lts x2 y = true := lts_tr hlt hl
      have hxy : x2 ≠ y := fun e => by
        rw [e, lts_irr] at h2
        cases h2
      have hm2 : (k, y) ∈ r := by
        rcases List.mem_cons.mp hm with z | z
        · exact absurd (congrArg Prod.snd z).symm hxy
        · exact z
      obtain ⟨w, w1, w2, w3, w4, w5⟩ := sep r k x2 y (fall_tail hf) hm2 h2 hn'.2
      exact ⟨w, List.mem_cons_of_mem _ w1, w2, w3, fun z => hn'.1 (List.mem_map.mpr ⟨w, List.mem_cons_of_mem _ w1, z⟩), by rw [outR_out (not_two (Ne.symm w4) hxy)]; exact w5⟩
    · have hm2 : (k, y) ∈ r := by
        rcases List.mem_cons.mp hm with z | z
        · exact absurd (congrArg Prod.fst z) e
        · exact z
      have hxy : x2 ≠ y := fun e2 => (List.nodup_cons.mp hn'.2).1 (by
        exact List.mem_map.mpr ⟨(k, y), hm2, e2.symm⟩)
      exact ⟨(k2, x2), List.mem_cons_self, Ne.symm e, hxy, hx2, outR_in List.mem_cons_self⟩
theorem out_self {k x : Str} : ∀ {r : List (Str × Str)}, (k, x) ∈ r → (r.map (·.2)).Nodup → outR r [x, x] = k
  | [], h, _ => by cases h
  | (j, y) :: r, h, hn => by
    have hn' := List.nodup_cons.mp hn
    rcases List.mem_cons.mp h with z | z
    · cases z
      exact outR_in List.mem_cons_self
    · have hne : y ≠ x := fun e => hn'.1 (by
        exact List.mem_map.mpr ⟨(k, x), z, e.symm⟩)
      rw [outR_out (not_two hne hne)]
      exact out_self z hn'.2
theorem no_lt {k x j y : Str} {r s : List (Str × Str)} (f1 : fall ((k, x) :: r)) (n1 : (((k, x) :: r).map (·.2)).Nodup) (n2 : (((j, y) :: s).map (·.2)).Nodup)
    (hm : ∀ z, z ∈ ((k, x) :: r).map (·.2) ↔ z ∈ ((j, y) :: s).map (·.2)) (ho : ∀ a b, a ∈ ((k, x) :: r).map (·.2) → b ∈ ((k, x) :: r).map (·.2) → outR ((k, x) :: r) [a, b] = outR ((j, y) :: s) [a, b]) (hl : lts x y = true) : False := by
  have hxy : x ≠ y := fun e => by
    rw [e, lts_irr] at hl
    cases hl
  have hy : y ∈ ((k, x) :: r).map (·.2) := (hm y).mpr List.mem_cons_self
  have hx : x ∈ ((k, x) :: r).map (·.2) := List.mem_cons_self
  obtain ⟨p, hp, hpy⟩ := List.mem_map.mp hy
  obtain ⟨k', y'⟩ := p
  have ey : y' = y := hpy
  subst ey
  have hp2 : (k', y') ∈ r := by
    rcases List.mem_cons.mp hp with z | z
    · exact absurd (congrArg Prod.snd z).symm hxy
    · exact z
  have e1 : k' = j := by
    have z := ho y' y' hy hy
    rw [out_self hp n1, outR_in List.mem_cons_self] at z
    exact z
  have e2 : k = j := by
    have z := ho x y' hx hy
    rw [outR_in List.mem_cons_self, outR_in (List.mem_cons_of_mem _ List.mem_cons_self)] at z
    exact z
  rw [e1, ← e2] at hp2
  obtain ⟨w, w1, w2, w3, w4, w5⟩ := sep r k x y' f1 hp2 hl n1
  have z := ho w.2 y' (List.mem_map.mpr ⟨w, List.mem_cons_of_mem _ w1, rfl⟩) hy
  rw [outR_out (not_two (Ne.symm w4) hxy), w5, outR_in (List.mem_cons_of_mem _ List.mem_cons_self), ← e2] at z
  exact w2 z
theorem plain_one : ∀ (r s : List (Str × Str)), fall r → fall s → (r.map (·.2)).Nodup → (s.map (·.2)).Nodup → (∀ x, x ∈ r.map (·.2) ↔ x ∈ s.map (·.2)) →
    (∀ x y, x ∈ r.map (·.2) → y ∈ r.map (·.2) → outR r [x, y] = outR s [x, y]) → r = s
  | [], [], _, _, _, _, _, _ => rfl
  | [], p :: s, _, _, _, _, h, _ => by
    have z := (h p.2).mpr (List.mem_map.mpr ⟨p, List.mem_cons_self, rfl⟩)
    cases z
  | p :: r, [], _, _, _, _, h, _ => by
    have z := (h p.2).mp (List.mem_map.mpr ⟨p, List.mem_cons_self, rfl⟩)
    cases z
  | (k, x) :: r, (j, y) :: s, f1, f2, n1, n2, hm, ho => by
    have e : x = y := by
      cases h1 : lts x y with
      | true => exact (no_lt f1 n1 n2 hm ho h1).elim
      | false =>
        cases h2 : lts y x with
        | true => exact (no_lt f2 n2 n1 (fun z => (hm z).symm) (fun a b ha hb => (ho a b ((hm a).mpr ha) ((hm b).mpr hb)).symm) h2).elim
        | false => exact lts_tri h1 h2
    subst e
    have ek : k = j := by
      have z := ho x x List.mem_cons_self List.mem_cons_self
      rw [outR_in List.mem_cons_self, outR_in List.mem_cons_self] at z
      exact z
    subst ek
    have a1 := List.nodup_cons.mp n1
    have a2 := List.nodup_cons.mp n2
    have ht : ∀ z, z ∈ r.map (·.2) ↔ z ∈ s.map (·.2) := fun z => by
      have q := hm z
      rw [List.map_cons, List.map_cons, List.mem_cons, List.mem_cons] at q
      constructor
      · intro hz
        rcases q.mp (.inr hz) with u | u
        · exact absurd (show x ∈ r.map (·.2) from (show z = x from u) ▸ hz) a1.1
        · exact u
      · intro hz
        rcases q.mpr (.inr hz) with u | u
        · exact absurd (show x ∈ s.map (·.2) from (show z = x from u) ▸ hz) a2.1
        · exact u
    rw [plain_one r s (fall_tail f1) (fall_tail f2) a1.2 a2.2 ht fun a b ha hb => ?_]
    have z := ho a b (List.mem_cons_of_mem _ ha) (List.mem_cons_of_mem _ hb)
    have ha' : x ≠ a := fun e => a1.1 (e ▸ ha)
    have hb' : x ≠ b := fun e => a1.1 (e ▸ hb)
    rw [outR_out (not_two ha' hb'), outR_out (not_two ha' hb')] at z
    exact z
/-! ### stretches: what they are; plain lines -/
def flat (f : List (Str × List Str)) : List (Str × Str) := f.flatMap fun b => b.2.map fun l => (b.1, l)
theorem flat_app (f g : List (Str × List Str)) : flat (f ++ g) = flat f ++ flat g := List.flatMap_append
theorem flat_one (b : Str × List Str) : flat [b] = b.2.map fun l => (b.1, l) := by simp [flat]
/-- neighbours differ -/
def alt : List (Str × List Str) → Prop
  | b :: c :: r => b.1 ≠ c.1 ∧ alt (c :: r)
  | _ => True
theorem alt_tail {b : Str × List Str} {r : List (Str × List Str)} (h : alt (b :: r)) : alt r := by
  cases r with
  | nil => trivial
  | cons q r => exact h.2
theorem alt_same {b c : Str × List Str} {r : List (Str × List Str)} (h : alt (b :: r)) (e : b.1 = c.1) : alt (c :: r) := by
  cases r with
  | nil => trivial
  | cons q r => exact ⟨e ▸ h.1, h.2⟩
theorem stretch_ok : ∀ (line : List (Str × Str)) (f : List (Str × List Str)), alt f.reverse → (∀ b ∈ f, b.2 ≠ []) →
    alt (line.foldl strStep f).reverse ∧ (∀ b ∈ line.foldl strStep f, b.2 ≠ []) ∧ flat (line.foldl strStep f) = flat f ++ line
  | [], f, h1, h2 => ⟨h1, h2, by simp⟩
  | p :: line, f, h1, h2 => by
    have key : alt (strStep f p).reverse ∧ (∀ b ∈ strStep f p, b.2 ≠ []) ∧ flat (strStep f p) = flat f ++ [p] := by
      rcases List.eq_nil_or_concat f with rfl | ⟨f', b, rfl⟩
      · refine ⟨trivial, fun b hb => ?_, by simp [strStep, flat]⟩
        have e : b = (p.1, [p.2]) := by simpa [strStep] using hb
        rw [e]
        simp
      · rw [List.concat_eq_append] at h1 h2 ⊢
        rw [strStep_snoc]
        by_cases e : b.1 = p.1
        · rw [if_pos e]
          refine ⟨?_, fun c hc => ?_, ?_⟩
          · rw [List.reverse_append] at h1 ⊢
            exact alt_same h1 e
          · rcases List.mem_append.mp hc with z | z
            · exact h2 c (List.mem_append.mpr (.inl z))
            · rw [List.mem_singleton.mp z]
              simp
          · rw [flat_app, flat_app, flat_one, flat_one, List.map_append, ← e]
            have ep : p = (b.1, p.2) := by rw [e]
            rw [← List.append_assoc]
            conv => rhs; rw [ep]
            simp
        · rw [if_neg e]
          refine ⟨?_, fun c hc => ?_, ?_⟩
          · rw [List.reverse_append, List.reverse_append]
            rw [List.reverse_append] at h1
            exact ⟨Ne.symm e, h1⟩
          · rcases List.mem_append.mp hc with z | z
            · exact h2 c z
            · rw [List.mem_singleton.mp z]
              simp
          · rw [flat_app _ [_], flat_one] <;> rfl
    obtain ⟨a, b, c⟩ := stretch_ok line (strStep f p) key.1 key.2.1
    exact ⟨a, b, by rw [List.foldl_cons, c, key.2.2, List.append_assoc] <;> rfl⟩
theorem stretch_flat (line : List (Str × Str)) : flat (stretch line) = line := by
  have h := (stretch_ok line [] trivial fun b hb => by cases hb).2.2
  exact h.trans (by simp [flat])
theorem stretch_alt (line : List (Str × Str)) : alt (stretch line).reverse := (stretch_ok line [] trivial fun b hb => by cases hb).1
theorem stretch_ne (line : List (Str × Str)) : ∀ b ∈ stretch line, b.2 ≠ [] := (stretch_ok line [] trivial fun b hb => by cases hb).2.1
theorem setOf_nodup (xs : List Str) : (setOf xs).Nodup := (sortS_perm (gath xs)).nodup_iff.mpr (gath_nodup xs)
theorem setOf_mem (xs : List Str) (x : Str) : x ∈ setOf xs ↔ x ∈ xs := by
  rw [← gath_mem xs x]
  exact (sortS_perm (gath xs)).mem_iff
theorem setOf_up (xs : List Str) : (setOf xs).Pairwise (fun a b => lts a b = true) := by
  refine List.Pairwise.imp ?_ ((sortS_pw (gath xs)).and (setOf_nodup xs))
  rintro a b ⟨h1, h2⟩
  unfold leS at h1
  rw [Bool.not_eq_true'] at h1
  cases q : lts a b with
  | true => rfl
  | false => exact absurd (lts_tri q h1) h2
theorem setOf_sort {xs : List Str} (h : xs.Nodup) : setOf xs = sortS xs := by
  have p : (gath xs).Perm xs := (List.perm_ext_iff_of_nodup (gath_nodup xs) h).mpr (gath_mem xs)
  exact sorted_one _ _ ((sortS_perm _).trans (p.trans (sortS_perm xs).symm)) (sortS_pw _) (sortS_pw _)
theorem fall_blk : ∀ (xs : List Str) (k : Str) (rest : List (Str × Str)), xs.Pairwise (fun a b => lts b a = true) → fall rest → (∀ p ∈ rest.head?, k ≠ p.1) → fall (xs.map (fun l => (k, l)) ++ rest)
  | [], k, rest, _, h, _ => h
  | [x], k, rest, _, h, h2 => by
    cases rest with
    | nil => trivial
    | cons p r => exact ⟨fun e => absurd e (h2 p rfl), h⟩
  | x :: y :: xs, k, rest, hp, h, h2 => by
    have q := List.pairwise_cons.mp hp
    exact ⟨fun _ => q.1 y List.mem_cons_self, fall_blk (y :: xs) k rest q.2 h h2⟩
def flatR (f : List (Str × List Str)) : List (Str × Str) := f.flatMap fun b => b.2.reverse.map fun l => (b.1, l)
theorem flat_rev (f : List (Str × List Str)) : (flat f).reverse = flatR f.reverse := by
  unfold flat flatR
  rw [List.reverse_flatMap]
  congr 1
  funext b
  simp
theorem fall_flatR : ∀ (f : List (Str × List Str)), alt f → (∀ b ∈ f, b.2 ≠ []) → (∀ b ∈ f, b.2.Pairwise (fun a b => lts a b = true)) → fall (flatR f)
  | [], _, _, _ => trivial
  | b :: f, h1, h2, h3 => by
    have ih := fall_flatR f (alt_tail h1) (fun c hc => h2 c (List.mem_cons_of_mem _ hc)) fun c hc => h3 c (List.mem_cons_of_mem _ hc)
    show fall (b.2.reverse.map (fun l => (b.1, l)) ++ flatR f)
    refine fall_blk _ _ _ (List.pairwise_reverse.mpr (h3 b List.mem_cons_self)) ih fun p hp => ?_
    cases f with
    | nil => cases hp
    | cons c f =>
      have hc : c.2.reverse ≠ [] := fun e => h2 c (List.mem_cons_of_mem _ List.mem_cons_self) (List.reverse_eq_nil_iff.mp e)
      have e : flatR (c :: f) = c.2.reverse.map (fun l => (c.1, l)) ++ flatR f := rfl
      rw [e] at hp
      cases q : c.2.reverse with
      | nil => exact absurd q hc
      | cons z zs =>
        rw [q] at hp
        have ep : p = (c.1, z) := by simpa using hp.symm
        rw [ep]
        exact h1.1
theorem plainP_flat (line : List (Str × Str)) : plainP line = flat ((stretch line).map fun b => (b.1, setOf b.2)) := rfl
theorem alt_map (g : List Str → List Str) : ∀ (f : List (Str × List Str)), alt f → alt (f.map fun b => (b.1, g b.2))
  | [], _ => trivial
  | [_], _ => trivial
  | b :: c :: r, h => ⟨h.1, alt_map g (c :: r) h.2⟩
/-- a plain line -/
def isPlain (l : List (Str × Str)) : Prop := fall l.reverse
theorem plainP_plain (line : List (Str × Str)) : isPlain (plainP line) := by
  unfold isPlain
  rw [plainP_flat, flat_rev, ← List.map_reverse]
  refine fall_flatR _ (alt_map setOf _ (stretch_alt line)) (fun b hb => ?_) fun b hb => ?_
  · obtain ⟨c, hc, rfl⟩ := List.mem_map.mp hb
    intro e
    have hne := stretch_ne line c (List.mem_reverse.mp hc)
    cases q : c.2 with
    | nil => exact hne q
    | cons z zs =>
      have z1 : z ∈ setOf c.2 := (setOf_mem c.2 z).mpr (by rw [q]; exact List.mem_cons_self)
      have e2 : setOf c.2 = [] := e
      rw [e2] at z1
      cases z1
  · obtain ⟨c, hc, rfl⟩ := List.mem_map.mp hb
    exact setOf_up c.2
theorem if_iff {α : Type} {a b : Prop} [Decidable a] [Decidable b] {x y : α} (h : a ↔ b) : (if a then x else y) = if b then x else y := by
  by_cases q : a
  · rw [if_pos q, if_pos (h.mp q)]
  · rw [if_neg q, if_neg fun z => q (h.mpr z)]
theorem outR_blk (k : Str) (lot : List Str) (rest : List (Str × Str)) : ∀ (xs : List Str), outR (xs.map (fun l => (k, l)) ++ rest) lot = if ∃ x ∈ xs, x ∈ lot then k else outR rest lot
  | [] => by simp
  | x :: xs => by
    show outR ((k, x) :: (xs.map (fun l => (k, l)) ++ rest)) lot = _
    by_cases h : x ∈ lot
    · rw [outR_in h, if_pos ⟨x, List.mem_cons_self, h⟩]
    · rw [outR_out h, outR_blk k lot rest xs]
      refine if_iff ⟨fun ⟨y, h1, h2⟩ => ⟨y, List.mem_cons_of_mem _ h1, h2⟩, fun ⟨y, h1, h2⟩ => ?_⟩
      rcases List.mem_cons.mp h1 with rfl | h1
      · exact absurd h2 h
      · exact ⟨y, h1, h2⟩
theorem outR_map (g : List Str → List Str) (hg : ∀ xs x, x ∈ g xs ↔ x ∈ xs) (lot : List Str) : ∀ (f : List (Str × List Str)), outR (flatR (f.map fun b => (b.1, g b.2))) lot = outR (flatR f) lot
  | [] => rfl
  | b :: f => by
    show outR ((g b.2).reverse.map (fun l => (b.1, l)) ++ flatR (f.map fun b => (b.1, g b.2))) lot = outR (b.2.reverse.map (fun l => (b.1, l)) ++ flatR f) lot
    rw [outR_blk, outR_blk, outR_map g hg lot f]
    refine if_iff ?_
    constructor
    · rintro ⟨x, h1, h2⟩
      exact ⟨x, List.mem_reverse.mpr ((hg _ _).mp (List.mem_reverse.mp h1)), h2⟩
    · rintro ⟨x, h1, h2⟩
      exact ⟨x, List.mem_reverse.mpr ((hg _ _).mpr (List.mem_reverse.mp h1)), h2⟩
theorem plainP_outer (line : List (Str × Str)) (lot : List Str) : outer (plainP line) lot = outer line lot := by
  rw [outer_rev, outer_rev, plainP_flat, flat_rev, ← List.map_reverse, outR_map setOf setOf_mem, ← flat_rev, stretch_flat]
theorem flat_labels (f : List (Str × List Str)) : (flat f).map (·.2) = f.flatMap (·.2) := by
  unfold flat
  rw [List.map_flatMap]
  congr 1
  funext b
  rw [List.map_map]
  exact List.map_id _
theorem flat_kinds (f : List (Str × List Str)) (p : Str × Str) (h : p ∈ flat f) : ∃ b ∈ f, p.1 = b.1 ∧ p.2 ∈ b.2 := by
  obtain ⟨b, hb, hp⟩ := List.mem_flatMap.mp h
  obtain ⟨l, hl, rfl⟩ := List.mem_map.mp hp
  exact ⟨b, hb, rfl, hl⟩
theorem mem_flat {f : List (Str × List Str)} {b : Str × List Str} {l : Str} (h : b ∈ f) (hl : l ∈ b.2) : (b.1, l) ∈ flat f := List.mem_flatMap.mpr ⟨b, h, List.mem_map.mpr ⟨l, hl, rfl⟩⟩
theorem plainP_mem (line : List (Str × Str)) (p : Str × Str) : p ∈ plainP line ↔ p ∈ line := by
  rw [plainP_flat]
  conv => rhs; rw [← stretch_flat line]
  constructor
  · intro h
    obtain ⟨b, hb, e1, e2⟩ := flat_kinds _ p h
    obtain ⟨c, hc, rfl⟩ := List.mem_map.mp hb
    have z := mem_flat hc ((setOf_mem _ _).mp e2)
    have e : p = (c.1, p.2) := by rw [← show p.1 = c.1 from e1]
    rw [e]
    exact z
  · intro h
    obtain ⟨b, hb, e1, e2⟩ := flat_kinds _ p h
    have z := mem_flat (f := (stretch line).map fun b => (b.1, setOf b.2)) (List.mem_map.mpr ⟨b, hb, rfl⟩) ((setOf_mem _ _).mpr e2)
    have e : p = (b.1, p.2) := by rw [← e1]
    rw [e]
    exact z
theorem perm_map2 (g : List Str → List Str) : ∀ (f : List (Str × List Str)), (∀ b ∈ f, (g b.2).Perm b.2) → (f.flatMap fun b => g b.2).Perm (f.flatMap (·.2))
  | [], _ => .nil
  | b :: f, h => by
    rw [List.flatMap_cons, List.flatMap_cons]
    exact (h b List.mem_cons_self).append (perm_map2 g f fun c hc => h c (List.mem_cons_of_mem _ hc))
theorem blk_nodup {line : List (Str × Str)} (h : (line.map (·.2)).Nodup) : ∀ b ∈ stretch line, b.2.Nodup := by
  intro b hb
  rw [← stretch_flat line, flat_labels] at h
  obtain ⟨s, t, e⟩ := List.append_of_mem hb
  rw [e, List.flatMap_append, List.flatMap_cons] at h
  exact (List.nodup_append.mp (List.nodup_append.mp h).2.1).1
theorem setOf_perm {xs : List Str} (h : xs.Nodup) : (setOf xs).Perm xs := by
  rw [setOf_sort h]
  exact sortS_perm xs
theorem plainP_labels {line : List (Str × Str)} (h : (line.map (·.2)).Nodup) : ((plainP line).map (·.2)).Perm (line.map (·.2)) := by
  rw [plainP_flat, flat_labels, List.flatMap_map]
  have z := perm_map2 setOf (stretch line) fun b hb => setOf_perm (blk_nodup h b hb)
  refine z.trans ?_
  rw [← flat_labels, stretch_flat]
/-! ### the law's plain lines are these -/
def LRel (st : List (Str × Str) × List (Str × Str)) (f : List (Str × List Str)) : Prop := (f = [] ∧ st = ([], [])) ∨ ∃ f' k ls, f = f' ++ [(k, ls)] ∧ ls ≠ [] ∧ st.2 = ls.map (fun l => (k, l)) ∧ st.1 = flat (f'.map fun b => (b.1, sortS b.2))
theorem lrel_step {st : List (Str × Str) × List (Str × Str)} {f : List (Str × List Str)} (h : LRel st f) (p : Str × Str) : LRel (plainStep st p) (strStep f p) := by
  rcases h with ⟨rfl, rfl⟩ | ⟨f', k, ls, rfl, hne, h2, h1⟩
  · refine .inr ⟨[], p.1, [p.2], rfl, by simp, ?_, ?_⟩ <;> simp [plainStep, brk, flat]
  · rw [strStep_snoc]
    unfold plainStep
    obtain ⟨x, xs, rfl⟩ : ∃ x xs, ls = x :: xs := by
      cases ls with
      | nil => exact absurd rfl hne
      | cons x xs => exact ⟨x, xs, rfl⟩
    have hb : brk st.2 p = !decide (k = p.1) := by rw [h2] <;> rfl
    by_cases e : k = p.1
    · rw [if_pos e, if_neg (by rw [hb, e] <;> simp)]
      refine .inr ⟨f', p.1, (x :: xs) ++ [p.2], rfl, by simp, ?_, h1⟩
      show st.2 ++ [p] = _
      rw [h2, List.map_append, e] <;> rfl
    · rw [if_neg e, if_pos (by rw [hb] <;> simp [e])]
      refine .inr ⟨f' ++ [(k, x :: xs)], p.1, [p.2], rfl, by simp, rfl, ?_⟩
      show st.1 ++ sortP st.2 = _
      rw [h1, h2, sortP_eq, List.map_append, flat_app, List.map_cons, List.map_nil, flat_one]
theorem lrel_all : ∀ (line : List (Str × Str)) (st : List (Str × Str) × List (Str × Str)) (f : List (Str × List Str)), LRel st f → LRel (line.foldl plainStep st) (line.foldl strStep f)
  | [], _, _, h => h
  | p :: line, st, f, h => lrel_all line _ _ (lrel_step h p)
theorem sortP_nil : sortP [] = [] := by
  have h := sortP_eq "" []
  have e : sortS [] = [] := List.perm_nil.mp (sortS_perm [])
  rw [e] at h
  exact h
theorem lawPlain_flat (line : List (Str × Str)) : lawPlain line = flat ((stretch line).map fun b => (b.1, sortS b.2)) := by
  have h := lrel_all line ([], []) [] (.inl ⟨rfl, rfl⟩)
  unfold lawPlain stretch
  rcases h with ⟨e1, e2⟩ | ⟨f', k, ls, e1, _, e2, e3⟩
  · rw [e1, e2, sortP_nil] <;> rfl
  · rw [e1, e2, e3, sortP_eq, List.map_append, flat_app, List.map_cons, List.map_nil, flat_one]
theorem lawPlain_eq {line : List (Str × Str)} (h : (line.map (·.2)).Nodup) : lawPlain line = plainP line := by
  rw [lawPlain_flat, plainP_flat]
  congr 1
  refine List.map_congr_left fun b hb => ?_
  rw [setOf_sort (blk_nodup h b hb)]
/-! ### all lines of some labels -/
theorem subsF_gen {α : Type} : ∀ (xs : List α) (f : List (List α)) (y : List α), y ∈ xs.foldl (fun f x => f ++ f.map fun y => y ++ [x]) f ↔ ∃ z ∈ f, ∃ s, s.Sublist xs ∧ y = z ++ s
  | [], f, y => by
    constructor
    · intro h
      exact ⟨y, h, [], .slnil, (List.append_nil y).symm⟩
    · rintro ⟨z, hz, s, hs, rfl⟩
      rw [List.sublist_nil.mp hs, List.append_nil]
      exact hz
  | x :: xs, f, y => by
    rw [List.foldl_cons, subsF_gen xs]
    constructor
    · rintro ⟨z, hz, s, hs, rfl⟩
      rcases List.mem_append.mp hz with h | h
      · exact ⟨z, h, s, .cons x hs, rfl⟩
      · obtain ⟨u, hu, rfl⟩ := List.mem_map.mp h
        exact ⟨u, hu, x :: s, .cons_cons x hs, by simp⟩
    · rintro ⟨z, hz, s, hs, rfl⟩
      cases hs with
      | cons _ hs => exact ⟨z, List.mem_append.mpr (.inl hz), s, hs, rfl⟩
      | @cons_cons s' _ _ hs => exact ⟨z ++ [x], List.mem_append.mpr (.inr (List.mem_map.mpr ⟨z, hz, rfl⟩)), s', hs, by simp⟩
theorem subsF_mem {α : Type} (xs : List α) (y : List α) : y ∈ subsF xs ↔ y.Sublist xs := by
  unfold subsF
  rw [subsF_gen]
  constructor
  · rintro ⟨z, hz, s, hs, rfl⟩
    rw [List.mem_singleton.mp hz]
    exact hs
  · intro h
    exact ⟨[], List.mem_singleton.mpr rfl, y, h, rfl⟩
theorem subsF_head {α : Type} : ∀ (xs : List α) (f : List (List α)), ∃ g, xs.foldl (fun f x => f ++ f.map fun y => y ++ [x]) ([] :: f) = [] :: g
  | [], f => ⟨f, rfl⟩
  | x :: xs, f => subsF_head xs (f ++ (([] :: f).map fun y => y ++ [x]))
theorem subs_of {α : Type} {xs y : List α} (h : y.Sublist xs) (hne : y ≠ []) : y ∈ subs xs := by
  have z := (subsF_mem xs y).mpr h
  obtain ⟨g, e⟩ := subsF_head xs ([] : List (List α))
  unfold subs
  have e2 : subsF xs = [] :: g := e
  rw [e2] at z ⊢
  rcases List.mem_cons.mp z with u | u
  · exact absurd u hne
  · exact u
theorem subs_sub {α : Type} {xs y : List α} (h : y ∈ subs xs) : y.Sublist xs := (subsF_mem xs y).mp (List.mem_of_mem_drop h)
/-- each part but the first has items -/
theorem subsF_ne {α : Type} : ∀ (xs : List α) (f : List (List α)), (∀ y ∈ f, y ≠ []) → ∃ g, xs.foldl (fun f x => f ++ f.map fun y => y ++ [x]) ([] :: f) = [] :: g ∧ ∀ y ∈ g, y ≠ []
  | [], f, h => ⟨f, rfl, h⟩
  | x :: xs, f, h => subsF_ne xs (f ++ (([] :: f).map fun y => y ++ [x])) fun y hy => by
    rcases List.mem_append.mp hy with z | z
    · exact h y z
    · obtain ⟨u, _, rfl⟩ := List.mem_map.mp z
      simp
theorem subs_ne {α : Type} {xs y : List α} (h : y ∈ subs xs) : y ≠ [] := by
  obtain ⟨g, e, hg⟩ := subsF_ne xs ([] : List (List α)) fun y hy => by cases hy
  have e2 : subsF xs = [] :: g := e
  unfold subs at h
  rw [e2] at h
  exact hg y h
/-- a line over these labels -/
def overT (tags : List Str) (l : List (Str × Str)) : Prop := (∀ p ∈ l, isK p.1) ∧ (l.map (·.2)).Perm tags
theorem overT.plain {tags : List Str} {l : List (Str × Str)} (h : overT tags l) (hn : tags.Nodup) : overT tags (plainP l) :=
  ⟨fun p hp => h.1 p ((plainP_mem l p).mp hp), (plainP_labels (h.2.nodup_iff.mpr hn)).trans h.2⟩
theorem outer_congr {l : List (Str × Str)} {a b : List Str} (h : ∀ p ∈ l, p.2 ∈ a ↔ p.2 ∈ b) : outer l a = outer l b := by
  unfold outer
  rw [List.filter_congr fun p hp => decide_eq_decide.mpr (h p hp)]
def signOf (tags : List Str) (l : List (Str × Str)) : List Str := (subs tags).map (outer l)
theorem plain_sign {tags : List Str} {l m : List (Str × Str)} (hn : tags.Nodup) (hl : overT tags l) (hm : overT tags m) (pl : isPlain l) (pm : isPlain m) (hs : signOf tags l = signOf tags m) : l = m := by
  have hs2 : ∀ lot ∈ subs tags, outer l lot = outer m lot := fun lot h => List.map_inj_left.mp hs lot h
  have nl : (l.map (·.2)).Nodup := hl.2.nodup_iff.mpr hn
  have nm : (m.map (·.2)).Nodup := hm.2.nodup_iff.mpr hn
  have key : l.reverse = m.reverse := by
    refine plain_one _ _ pl pm ?_ ?_ ?_ ?_
    · rw [List.map_reverse]
      exact (List.reverse_perm _).nodup_iff.mpr nl
    · rw [List.map_reverse]
      exact (List.reverse_perm _).nodup_iff.mpr nm
    · intro x
      rw [List.map_reverse, List.map_reverse, List.mem_reverse, List.mem_reverse, hl.2.mem_iff, hm.2.mem_iff]
    · intro x y hx hy
      rw [List.map_reverse, List.mem_reverse, hl.2.mem_iff] at hx hy
      rw [← outer_rev, ← outer_rev]
      have hsub : (tags.filter fun z => decide (z ∈ [x, y])).Sublist tags := List.filter_sublist
      have hne : (tags.filter fun z => decide (z ∈ [x, y])) ≠ [] := by
        intro e
        have z : x ∈ tags.filter fun z => decide (z ∈ [x, y]) := List.mem_filter.mpr ⟨hx, by simp⟩
        rw [e] at z
        cases z
      have q := hs2 _ (subs_of hsub hne)
      have c : ∀ k : List (Str × Str), overT tags k → outer k (tags.filter fun z => decide (z ∈ [x, y])) = outer k [x, y] := fun k hk => outer_congr fun p hp => by
        rw [List.mem_filter]
        have hp2 : p.2 ∈ tags := hk.2.mem_iff.mp (List.mem_map.mpr ⟨p, hp, rfl⟩)
        simp [hp2]
      rw [c l hl, c m hm] at q
      exact q
  have z := congrArg List.reverse key
  rw [List.reverse_reverse, List.reverse_reverse] at z
  exact z
theorem ordersN_perm {α : Type} : ∀ (n : Nat) (xs : List α), xs.length = n → ∀ y, y ∈ ordersN n xs ↔ y.Perm xs
  | 0, xs, h, y => by
    rw [List.eq_nil_of_length_eq_zero h]
    simp [ordersN]
  | n + 1, xs, h, y => by
    unfold ordersN
    rw [List.mem_flatMap]
    have sp : ∀ (i : Nat) (x : α), xs[i]? = some x → xs.Perm (x :: (xs.take i ++ xs.drop (i + 1))) := fun i x e => by
      obtain ⟨hi, rfl⟩ := List.getElem?_eq_some_iff.mp e
      have z : xs = xs.take i ++ xs[i] :: xs.drop (i + 1) := by rw [List.getElem_cons_drop, List.take_append_drop]
      conv => lhs; rw [z]
      exact List.perm_middle
    constructor
    · rintro ⟨⟨i, x⟩, hp, hy⟩
      obtain ⟨y', hy', rfl⟩ := List.mem_map.mp hy
      obtain ⟨j, hj⟩ := List.mem_iff_getElem?.mp hp
      obtain ⟨e1, e2⟩ := List.getElem?_zip_eq_some.mp hj
      have ei : i = j := by
        obtain ⟨hlt, e⟩ := List.getElem?_eq_some_iff.mp e1
        rw [List.getElem_range] at e
        exact e.symm
      subst ei
      have hp := sp i x e2
      have hl : (xs.take i ++ xs.drop (i + 1)).length = n := by
        have z := hp.length_eq
        rw [List.length_cons] at z
        omega
      exact (((ordersN_perm n _ hl y').mp hy').cons x).trans hp.symm
    · intro hy
      cases y with
      | nil =>
        have z := hy.length_eq
        rw [h] at z
        cases z
      | cons x y' =>
        have hx : x ∈ xs := hy.mem_iff.mp List.mem_cons_self
        obtain ⟨i, e⟩ := List.mem_iff_getElem?.mp hx
        obtain ⟨hi, _⟩ := List.getElem?_eq_some_iff.mp e
        have hp := sp i x e
        have hl : (xs.take i ++ xs.drop (i + 1)).length = n := by
          have z := hp.length_eq
          rw [List.length_cons] at z
          omega
        refine ⟨(i, x), List.mem_iff_getElem?.mpr ⟨i, List.getElem?_zip_eq_some.mpr ⟨List.getElem?_range hi, e⟩⟩, List.mem_map.mpr ⟨y', (ordersN_perm n _ hl y').mpr ?_, rfl⟩⟩
        exact (hy.trans hp).cons_inv
theorem kindsF_mem : ∀ (n : Nat) (ks : List Str), ks ∈ kindsF n ↔ ks.length = n ∧ ∀ k ∈ ks, isK k
  | 0, ks => by
    constructor
    · intro h
      rw [List.mem_singleton.mp h]
      exact ⟨rfl, fun k hk => by cases hk⟩
    · rintro ⟨h, _⟩
      rw [List.eq_nil_of_length_eq_zero h]
      exact List.mem_singleton.mpr rfl
  | n + 1, ks => by
    unfold kindsF
    rw [List.mem_append, List.mem_map, List.mem_map]
    constructor
    · have one : ∀ (y : List Str) (z : Str), y ∈ kindsF n → isK z → (y ++ [z]).length = n + 1 ∧ ∀ k ∈ y ++ [z], isK k := fun y z hy hz => by
        obtain ⟨h1, h2⟩ := (kindsF_mem n y).mp hy
        refine ⟨by rw [List.length_append, h1] <;> rfl, fun k hk => ?_⟩
        rcases List.mem_append.mp hk with q | q
        · exact h2 k q
        · rw [List.mem_singleton.mp q]
          exact hz
      rintro (⟨y, hy, rfl⟩ | ⟨y, hy, rfl⟩)
      · exact one y _ hy (.inl rfl)
      · exact one y _ hy (.inr rfl)
    · rintro ⟨h1, h2⟩
      rcases List.eq_nil_or_concat ks with rfl | ⟨ys, k, rfl⟩
      · cases h1
      · rw [List.concat_eq_append] at h1 h2 ⊢
        have hys : ys ∈ kindsF n := (kindsF_mem n ys).mpr ⟨by rw [List.length_append] at h1; exact Nat.succ.inj h1, fun j hj => h2 j (List.mem_append.mpr (.inl hj))⟩
        rcases h2 k (List.mem_append.mpr (.inr (List.mem_singleton.mpr rfl))) with rfl | rfl
        · exact .inl ⟨ys, hys, rfl⟩
        · exact .inr ⟨ys, hys, rfl⟩
theorem zip_over {tags ks order : List Str} (hk : ks ∈ kindsF tags.length) (ho : order ∈ ordersN tags.length tags) : overT tags (ks.zip order) := by
  have h1 := (kindsF_mem _ _).mp hk
  have h2 := (ordersN_perm _ tags rfl order).mp ho
  refine ⟨fun p hp => h1.2 p.1 (List.of_mem_zip hp).1, ?_⟩
  rw [List.map_snd_zip (by rw [h1.1, h2.length_eq] <;> exact Nat.le_refl _)]
  exact h2
theorem over_zip {tags : List Str} {l : List (Str × Str)} (h : overT tags l) : ∃ ks ∈ kindsF tags.length, ∃ order ∈ ordersN tags.length tags, l = ks.zip order := by
  refine ⟨l.map (·.1), (kindsF_mem _ _).mpr ⟨?_, fun k hk => ?_⟩, l.map (·.2), (ordersN_perm _ tags rfl _).mpr h.2, ?_⟩
  · rw [List.length_map, ← h.2.length_eq, List.length_map]
  · obtain ⟨p, hp, rfl⟩ := List.mem_map.mp hk
    exact h.1 p hp
  · rw [List.zip_map']
    exact (List.map_id' l).symm
/-! ### what is left when free labels are taken away -/
abbrev Rw := List Str × Str
def oneAt (rows : List Rw) (ks : List Nat) (x : Str) : Prop := ∀ a ∈ ks, ∀ b ∈ ks, x ∈ (rk rows a).1 → x ∈ (rk rows b).1 → (rk rows a).2 = (rk rows b).2
def Closed (rows : List Rw) (ys : List Nat) : Prop := ∀ k ∈ ys, ∀ x ∈ (rk rows k).1, ¬ oneAt rows ys x
theorem lt_two (xs : List Str) : (setOf xs).length < 2 ↔ ∀ a ∈ xs, ∀ b ∈ xs, a = b := by
  constructor
  · intro h a ha b hb
    have ha := (setOf_mem xs a).mpr ha
    have hb := (setOf_mem xs b).mpr hb
    match q : setOf xs, h with
    | [], _ => rw [q] at ha; cases ha
    | [z], _ =>
      rw [q] at ha hb
      rw [List.mem_singleton.mp ha, List.mem_singleton.mp hb]
  · intro h
    have hn := setOf_nodup xs
    have hm := setOf_mem xs
    match q : setOf xs with
    | [] => exact Nat.zero_lt_succ _
    | [z] => exact Nat.lt_succ_self _
    | y :: z :: r =>
      rw [q] at hn
      have e := h y ((hm y).mp (by rw [q]; exact List.mem_cons_self)) z ((hm z).mp (by rw [q]; exact List.mem_cons_of_mem _ List.mem_cons_self))
      exact absurd (by rw [e]; exact List.mem_cons_self) (List.nodup_cons.mp hn).1
theorem lKinds_mem {rows : List Rw} {ks : List Nat} {x k : Str} : k ∈ lKinds rows ks x ↔ ∃ a ∈ ks, x ∈ (rk rows a).1 ∧ (rk rows a).2 = k := by
  unfold lKinds
  rw [List.mem_map]
  constructor
  · rintro ⟨a, ha, e⟩
    obtain ⟨h1, h2⟩ := List.mem_filter.mp ha
    exact ⟨a, h1, of_decide_eq_true h2, e⟩
  · rintro ⟨a, h1, h2, e⟩
    exact ⟨a, List.mem_filter.mpr ⟨h1, decide_eq_true h2⟩, e⟩
theorem one_iff (rows : List Rw) (ks : List Nat) (x : Str) : (setOf (lKinds rows ks x)).length < 2 ↔ oneAt rows ks x := by
  rw [lt_two]
  constructor
  · intro h a ha b hb h1 h2
    exact h _ (lKinds_mem.mpr ⟨a, ha, h1, rfl⟩) _ (lKinds_mem.mpr ⟨b, hb, h2, rfl⟩)
  · intro h k hk j hj
    obtain ⟨a, ha, h1, rfl⟩ := lKinds_mem.mp hk
    obtain ⟨b, hb, h2, rfl⟩ := lKinds_mem.mp hj
    exact h a ha b hb h1 h2
theorem oneAt_sub {rows : List Rw} {ys zs : List Nat} {x : Str} (h : ∀ k ∈ ys, k ∈ zs) (ho : oneAt rows zs x) : oneAt rows ys x := fun a ha b hb => ho a (h a ha) b (h b hb)
def cut (rows : List Rw) (x : Str) (ks : List Nat) : List Nat := ks.filter fun k => !decide (x ∈ (rk rows k).1)
theorem cut_mem {rows : List Rw} {x : Str} {ks : List Nat} {k : Nat} : k ∈ cut rows x ks ↔ k ∈ ks ∧ x ∉ (rk rows k).1 := by
  unfold cut
  rw [List.mem_filter]
  simp
theorem closed_cut {rows : List Rw} {ys ks : List Nat} {x : Str} (hc : Closed rows ys) (hs : ∀ k ∈ ys, k ∈ ks) (ho : oneAt rows ks x) : ∀ k ∈ ys, k ∈ cut rows x ks := fun k hk => cut_mem.mpr ⟨hs k hk, fun hx => hc k hk x hx (oneAt_sub hs ho)⟩
structure Inv (rows : List Rw) (left : List Str) (ks : List Nat) : Prop where
  sub : ks.Sublist (List.range rows.length)
  nam : ∀ k ∈ ks, ∀ x ∈ (rk rows k).1, x ∈ left
  top : ∀ ys, Closed rows ys → (∀ k ∈ ys, k < rows.length) → ∀ k ∈ ys, k ∈ ks
theorem Inv.start {rows : List Rw} {tags : List Str} (h : ∀ r ∈ rows, ∀ x ∈ r.1, x ∈ tags) : Inv rows tags (List.range rows.length) where
  sub := List.Sublist.refl _
  nam := fun k hk x hx => by
    rw [List.mem_range] at hk
    have e : rk rows k = rows[k] := by
      unfold rk
      rw [List.getD_eq_getElem?_getD, List.getElem?_eq_getElem hk] <;> rfl
    rw [e] at hx
    exact h _ (List.getElem_mem hk) x hx
  top := fun ys _ h k hk => List.mem_range.mpr (h k hk)
theorem Inv.cut {rows : List Rw} {left left' : List Str} {ks : List Nat} {x : Str} (I : Inv rows left ks) (ho : oneAt rows ks x) (hl : ∀ y ∈ left, y ≠ x → y ∈ left') : Inv rows left' (cut rows x ks) where
  sub := List.filter_sublist.trans I.sub
  nam := fun k hk y hy => by
    obtain ⟨h1, h2⟩ := cut_mem.mp hk
    exact hl y (I.nam k h1 y hy) fun e => h2 (e ▸ hy)
  top := fun ys hc hy => closed_cut hc (I.top ys hc hy) ho
/-- the greatest closed one -/
structure Top (rows : List Rw) (ks : List Nat) : Prop where
  sub : ks.Sublist (List.range rows.length)
  cl : Closed rows ks
  top : ∀ ys, Closed rows ys → (∀ k ∈ ys, k < rows.length) → ∀ k ∈ ys, k ∈ ks
theorem Top.lt {rows : List Rw} {ks : List Nat} (t : Top rows ks) : ∀ k ∈ ks, k < rows.length := fun k hk => List.mem_range.mp (t.sub.subset hk)
theorem range_up (n : Nat) : (List.range n).Pairwise (· < ·) := List.pairwise_lt_range
theorem up_one {xs ys : List Nat} (h1 : xs.Pairwise (· < ·)) (h2 : ys.Pairwise (· < ·)) (h : ∀ k, k ∈ xs ↔ k ∈ ys) : xs = ys := by
  have nd : ∀ zs : List Nat, zs.Pairwise (· < ·) → zs.Nodup := fun zs hz => hz.imp fun h => Nat.ne_of_lt h
  exact List.Perm.eq_of_pairwise (le := (· < ·)) (fun a b _ _ p q => absurd p (Nat.lt_asymm q)) h1 h2 ((List.perm_ext_iff_of_nodup (nd _ h1) (nd _ h2)).mpr h)
theorem Top.one {rows : List Rw} {xs ys : List Nat} (t : Top rows xs) (u : Top rows ys) : xs = ys :=
  up_one ((range_up _).sublist t.sub) ((range_up _).sublist u.sub) fun k => ⟨fun h => u.top xs t.cl t.lt k h, fun h => t.top ys u.cl u.lt k h⟩
/-! the law's own -/
theorem leftStep_eq (rows : List Rw) (st : List Str × List Nat) (own : Str) : (oneAt rows st.2 own ∧ leftStep rows st own = (st.1.filter fun x => !decide (x = own), cut rows own st.2)) ∨ (¬ oneAt rows st.2 own ∧ leftStep rows st own = st) := by
  unfold leftStep
  by_cases h : (setOf (lKinds rows st.2 own)).length < 2
  · exact .inl ⟨(one_iff _ _ _).mp h, by rw [if_pos h] <;> rfl⟩
  · exact .inr ⟨fun z => h ((one_iff _ _ _).mpr z), by rw [if_neg h]⟩
theorem fold_inv {rows : List Rw} : ∀ (ns : List Str) (st : List Str × List Nat), Inv rows st.1 st.2 → Inv rows (ns.foldl (leftStep rows) st).1 (ns.foldl (leftStep rows) st).2
  | [], _, h => h
  | n :: ns, st, h => by
    refine fold_inv ns _ ?_
    rcases leftStep_eq rows st n with ⟨ho, e⟩ | ⟨_, e⟩
    · rw [e]
      exact h.cut ho fun y hy hne => List.mem_filter.mpr ⟨hy, by simp [hne]⟩
    · rw [e]
      exact h
theorem step_sub (rows : List Rw) (st : List Str × List Nat) (n : Str) : (leftStep rows st n).1.Sublist st.1 ∧ (leftStep rows st n).2.Sublist st.2 := by
  rcases leftStep_eq rows st n with ⟨_, e⟩ | ⟨_, e⟩
  · rw [e]
    exact ⟨List.filter_sublist, List.filter_sublist⟩
  · rw [e]
    exact ⟨List.Sublist.refl _, List.Sublist.refl _⟩
theorem fold_sub {rows : List Rw} : ∀ (ns : List Str) (st : List Str × List Nat), (ns.foldl (leftStep rows) st).1.Sublist st.1
  | [], _ => List.Sublist.refl _
  | n :: ns, st => (fold_sub ns _).trans (step_sub rows st n).1
theorem fold_gone {rows : List Rw} {x : Str} : ∀ (ns : List Str) (st : List Str × List Nat), x ∈ ns → oneAt rows st.2 x → x ∉ (ns.foldl (leftStep rows) st).1
  | [], _, h, _ => by cases h
  | n :: ns, st, h, ho => by
    by_cases e : x = n
    · subst e
      intro hx
      have hx2 := (fold_sub ns _).subset hx
      rcases leftStep_eq rows st x with ⟨_, e⟩ | ⟨h2, _⟩
      · rw [e] at hx2
        have z := (List.mem_filter.mp hx2).2
        simp at z
      · exact h2 ho
    · have h2 : x ∈ ns := by
        rcases List.mem_cons.mp h with z | z
        · exact absurd z e
        · exact z
      exact fold_gone ns _ h2 (oneAt_sub (fun k hk => (step_sub rows st n).2.subset hk) ho)
theorem fold_closed {rows : List Rw} : ∀ (ns : List Str) (st : List Str × List Nat), Closed rows st.2 → (ns.foldl (leftStep rows) st).2 = st.2
  | [], _, _ => rfl
  | n :: ns, st, h => by
    have e2 : (leftStep rows st n).2 = st.2 := by
      rcases leftStep_eq rows st n with ⟨ho, e⟩ | ⟨_, e⟩
      · rw [e]
        show cut rows n st.2 = st.2
        unfold cut
        refine List.filter_eq_self.mpr fun k hk => ?_
        have z : n ∉ (rk rows k).1 := fun hx => h k hk n hx ho
        simp [z]
      · rw [e]
    have z := fold_closed ns (leftStep rows st n) (by rw [e2]; exact h)
    rw [List.foldl_cons, z, e2]
theorem leftN_inv {rows : List Rw} {tags : List Str} (h : ∀ r ∈ rows, ∀ x ∈ r.1, x ∈ tags) : ∀ i : Nat,
    Inv rows (leftN rows i (tags, List.range rows.length)).1 (leftN rows i (tags, List.range rows.length)).2 ∧ (Closed rows (leftN rows i (tags, List.range rows.length)).2 ∨ (leftN rows i (tags, List.range rows.length)).1.length + i ≤ tags.length)
  | 0 => ⟨Inv.start h, .inr (Nat.le_refl _)⟩
  | i + 1 => by
    obtain ⟨I, q⟩ := leftN_inv h i
    show Inv rows (leftRound rows (leftN rows i (tags, List.range rows.length))).1 (leftRound rows (leftN rows i (tags, List.range rows.length))).2 ∧ (Closed rows (leftRound rows (leftN rows i (tags, List.range rows.length))).2 ∨ (leftRound rows (leftN rows i (tags, List.range rows.length))).1.length + (i + 1) ≤ tags.length)
    generalize leftN rows i (tags, List.range rows.length) = st at I q
    unfold leftRound
    refine ⟨fold_inv _ _ I, ?_⟩
    by_cases hc : Closed rows st.2
    · rw [fold_closed _ _ hc]
      exact .inl hc
    · refine .inr ?_
      rcases q with q | q
      · exact absurd q hc
      · obtain ⟨k, hk, x, hx, ho⟩ : ∃ k, k ∈ st.2 ∧ ∃ x, x ∈ (rk rows k).1 ∧ oneAt rows st.2 x := Classical.byContradiction fun z => hc fun k hk x hx ho => z ⟨k, hk, x, hx, ho⟩
        have hxl := I.nam k hk x hx
        have gone := fold_gone st.1.reverse st (List.mem_reverse.mpr hxl) ho
        have hsub := fold_sub (rows := rows) st.1.reverse st
        have hlt : (st.1.reverse.foldl (leftStep rows) st).1.length < st.1.length := by
          rcases Nat.lt_or_ge (st.1.reverse.foldl (leftStep rows) st).1.length st.1.length with z | z
          · exact z
          · have e := hsub.eq_of_length_le z
            rw [e] at gone
            exact absurd hxl gone
        omega
theorem left_top {rows : List Rw} {tags : List Str} (h : ∀ r ∈ rows, ∀ x ∈ r.1, x ∈ tags) : Top rows (leftF tags rows) := by
  obtain ⟨I, q⟩ := leftN_inv h tags.length
  refine ⟨I.sub, ?_, I.top⟩
  rcases q with q | q
  · exact q
  · intro k hk x hx
    have z := I.nam k hk x hx
    have e : (leftN rows tags.length (tags, List.range rows.length)).1 = [] := List.eq_nil_of_length_eq_zero (by omega)
    rw [e] at z
    cases z
/-! the program's -/
theorem kindsAt_eq {rows : List Rw} {rws : List NRow} (h : ∀ r ∈ rws, r.2 = rk rows r.1) (x : Str) : kindsAt x (rws.map (·.2)) = setOf (lKinds rows (rws.map (·.1)) x) := by
  unfold kindsAt lKinds
  rw [List.filter_map, List.filter_map, List.map_map, List.map_map]
  congr 1
  have e : rws.filter ((fun r : Rw => decide (x ∈ r.1)) ∘ fun r : NRow => r.2) = rws.filter ((fun k => decide (x ∈ (rk rows k).1)) ∘ fun r : NRow => r.1) := List.filter_congr fun r hr => by
    show decide (x ∈ r.2.1) = decide (x ∈ (rk rows r.1).1)
    rw [h r hr]
  rw [e]
  refine List.map_congr_left fun r hr => ?_
  show r.2.2 = (rk rows r.1).2
  rw [h r (List.mem_filter.mp hr).1]
theorem without_keys {rows : List Rw} {rws : List NRow} (h : ∀ r ∈ rws, r.2 = rk rows r.1) (x : Str) : (without x rws).map (·.1) = cut rows x (rws.map (·.1)) := by
  unfold without cut
  rw [List.filter_map]
  congr 1
  exact List.filter_congr fun r hr => by
    show (!decide (x ∈ r.2.1)) = !decide (x ∈ (rk rows r.1).1)
    rw [h r hr]
theorem outR_app_in {a b : List (Str × Str)} {lot : List Str} : (∃ p ∈ a, p.2 ∈ lot) → outR (a ++ b) lot = outR a lot := by
  induction a with
  | nil => rintro ⟨p, hp, _⟩; cases hp
  | cons q a ih =>
    rintro ⟨p, hp, hl⟩
    obtain ⟨k, x⟩ := q
    by_cases h : x ∈ lot
    · rw [List.cons_append, outR_in h, outR_in h]
    · rw [List.cons_append, outR_out h, outR_out h]
      refine ih ?_
      rcases List.mem_cons.mp hp with rfl | hp
      · exact absurd hl h
      · exact ⟨p, hp, hl⟩
theorem outR_app_out {a b : List (Str × Str)} {lot : List Str} : (∀ p ∈ a, p.2 ∉ lot) → outR (a ++ b) lot = outR b lot := by
  induction a with
  | nil => intro _; rfl
  | cons q a ih =>
    intro h
    obtain ⟨k, x⟩ := q
    rw [List.cons_append, outR_out (h (k, x) List.mem_cons_self)]
    exact ih fun p hp => h p (List.mem_cons_of_mem _ hp)
/-- what is found, so far: it answers what is gone -/
structure Fnd (tags : List Str) (rows : List Rw) (rest : List Str) (ks : List Nat) (found : List (Str × Str)) : Prop where
  prm : (found.map (·.2) ++ rest).Perm tags
  knd : ∀ p ∈ found, isK p.1
  ans : ∀ k, k < rows.length → k ∉ ks → (∃ p ∈ found, p.2 ∈ (rk rows k).1) ∧ outR found (rk rows k).1 = (rk rows k).2
theorem rk_mem {rows : List Rw} {k : Nat} (h : k < rows.length) : rk rows k ∈ rows := by
  unfold rk
  rw [List.getD_eq_getElem?_getD, List.getElem?_eq_getElem h]
  exact List.getElem_mem h
theorem head_kind {xs : List Str} (h : (setOf xs).length < 2) {k : Str} (hk : k ∈ xs) : (setOf xs).headD "sum" = k := by
  have hk2 := (setOf_mem xs k).mpr hk
  match q : setOf xs, h with
  | [], _ => rw [q] at hk2; cases hk2
  | [z], _ =>
    rw [q] at hk2
    exact (List.mem_singleton.mp hk2).symm
theorem headD_mem {xs : List Str} : xs = [] ∨ xs.headD "sum" ∈ xs := by
  cases xs with
  | nil => exact .inl rfl
  | cons x xs => exact .inr List.mem_cons_self
theorem Fnd.step {tags : List Str} {rows : List Rw} {rest : List Str} {ks : List Nat} {found : List (Str × Str)} {x : Str} (F : Fnd tags rows rest ks found) (I : Inv rows rest ks) (hn : tags.Nodup) (hK : ∀ r ∈ rows, isK r.2) (hx : x ∈ rest)
    (ho : (setOf (lKinds rows ks x)).length < 2) : Fnd tags rows (rest.erase x) (cut rows x ks) (found ++ [((setOf (lKinds rows ks x)).headD "sum", x)]) where
  prm := by
    refine List.Perm.trans ?_ F.prm
    rw [List.map_append, List.append_assoc]
    exact List.Perm.append_left _ (List.perm_cons_erase hx).symm
  knd := fun p hp => by
    rcases List.mem_append.mp hp with h | h
    · exact F.knd p h
    · rw [List.mem_singleton.mp h]
      show isK ((setOf (lKinds rows ks x)).headD "sum")
      rcases headD_mem (xs := setOf (lKinds rows ks x)) with e | e
      · rw [e]
        exact .inl rfl
      · obtain ⟨a, ha, _, e2⟩ := lKinds_mem.mp ((setOf_mem _ _).mp e)
        rw [← e2]
        exact hK _ (rk_mem (List.mem_range.mp (I.sub.subset ha)))
  ans := fun k hk hkn => by
    by_cases h : k ∈ ks
    · have hxk : x ∈ (rk rows k).1 := Classical.byContradiction fun z => hkn (cut_mem.mpr ⟨h, z⟩)
      refine ⟨⟨_, List.mem_append.mpr (.inr (List.mem_singleton.mpr rfl)), hxk⟩, ?_⟩
      have hout : ∀ p ∈ found, p.2 ∉ (rk rows k).1 := fun p hp hpk => by
        have h1 := I.nam k h p.2 hpk
        have h2 := F.prm.nodup_iff.mpr hn
        exact (List.nodup_append.mp h2).2.2 p.2 (List.mem_map.mpr ⟨p, hp, rfl⟩) p.2 h1 rfl
      rw [outR_app_out hout, outR_in hxk]
      exact head_kind ho (lKinds_mem.mpr ⟨k, h, hxk, rfl⟩)
    · obtain ⟨⟨p, hp, hpk⟩, e⟩ := F.ans k hk h
      exact ⟨⟨p, List.mem_append.mpr (.inl hp), hpk⟩, by rw [outR_app_in ⟨p, hp, hpk⟩]; exact e⟩
theorem peel_ok {tags : List Str} {rows : List Rw} (hn : tags.Nodup) (hK : ∀ r ∈ rows, isK r.2) : ∀ (f : Nat) (rest : List Str) (rws : List NRow) (found : List (Str × Str)), rest.length < f → (∀ r ∈ rws, r.2 = rk rows r.1) →
    Inv rows rest (rws.map (·.1)) → Fnd tags rows rest (rws.map (·.1)) found →
    Top rows ((peelF f rest rws found).2.map (·.1)) ∧ ((peelF f rest rws found).2 = [] → overT tags (peelF f rest rws found).1.reverse ∧ fits (peelF f rest rws found).1.reverse rows = true) ∧ (∀ r ∈ (peelF f rest rws found).2, r.2 = rk rows r.1)
  | 0, rest, _, _, h, _, _, _ => absurd h (Nat.not_lt_zero _)
  | f + 1, rest, rws, found, hf, hr, I, F => by
    unfold peelF
    have hfree : ∀ x, x ∈ freeOf rest rws ↔ x ∈ rest ∧ oneAt rows (rws.map (·.1)) x := fun x => by
      unfold freeOf
      rw [List.mem_filter, kindsAt_eq hr, ← one_iff]
      simp
    cases q : freeOf rest rws with
    | nil =>
      have no : ∀ x ∈ rest, ¬ oneAt rows (rws.map (·.1)) x := fun x hx ho => by
        have z := (hfree x).mpr ⟨hx, ho⟩
        rw [q] at z
        cases z
      refine ⟨⟨I.sub, fun k hk x hx => no x (I.nam k hk x hx), I.top⟩, fun e => ?_, hr⟩
      have e : rws = [] := e
      subst e
      have er : rest = [] := by
        cases rest with
        | nil => rfl
        | cons x r => exact absurd (fun a ha => by cases ha) (no x List.mem_cons_self)
      subst er
      have hp := F.prm
      rw [List.append_nil] at hp
      refine ⟨⟨fun p hp => F.knd p (List.mem_reverse.mp hp), ?_⟩, ?_⟩
      · rw [List.map_reverse]
        exact (List.reverse_perm _).trans hp
      · refine List.all_eq_true.mpr fun r hrr => decide_eq_true ?_
        obtain ⟨k, hk⟩ := List.mem_iff_getElem?.mp hrr
        obtain ⟨hlt, e⟩ := List.getElem?_eq_some_iff.mp hk
        have z := (F.ans k hlt (by simp)).2
        have e2 : rk rows k = r := by
          unfold rk
          rw [List.getD_eq_getElem?_getD, hk] <;> rfl
        rw [e2] at z
        rw [outer_rev, List.reverse_reverse]
        exact z
    | cons x xs =>
      obtain ⟨hx, ho⟩ := (hfree x).mp (by rw [q]; exact List.mem_cons_self)
      have ho2 := (one_iff _ _ _).mpr ho
      have hk := without_keys hr x
      have hlen : (rest.erase x).length < f := by
        rw [List.length_erase_of_mem hx]
        have z := List.length_pos_of_mem hx
        omega
      refine peel_ok hn hK f (rest.erase x) (without x rws) _ hlen (fun r h => hr r (List.mem_filter.mp h).1) ?_ ?_
      · rw [hk]
        exact I.cut ho fun y hy hne => (List.mem_erase_of_ne hne).mpr hy
      · rw [hk, kindsAt_eq hr]
        exact F.step I hn hK hx ho2
theorem numbered_rk (rows : List Rw) : ∀ r ∈ numbered rows, r.2 = rk rows r.1 := by
  intro r hr
  obtain ⟨j, hj⟩ := List.mem_iff_getElem?.mp hr
  obtain ⟨e1, e2⟩ := List.getElem?_zip_eq_some.mp hj
  have ei : r.1 = j := by
    obtain ⟨hlt, e⟩ := List.getElem?_eq_some_iff.mp e1
    rw [List.getElem_range] at e
    exact e.symm
  unfold rk
  rw [List.getD_eq_getElem?_getD, ei, e2] <;> rfl
theorem numbered_keys (rows : List Rw) : (numbered rows).map (·.1) = List.range rows.length := by
  unfold numbered
  rw [List.map_fst_zip]
  rw [List.length_range]
  exact Nat.le_refl _
theorem peeled_ok {tags : List Str} {rows : List Rw} (hn : tags.Nodup) (hK : ∀ r ∈ rows, isK r.2) (ht : ∀ r ∈ rows, ∀ x ∈ r.1, x ∈ tags) :
    Top rows ((peeledF tags rows).2.map (·.1)) ∧ ((peeledF tags rows).2 = [] → overT tags (peeledF tags rows).1.reverse ∧ fits (peeledF tags rows).1.reverse rows = true) ∧ (∀ r ∈ (peeledF tags rows).2, r.2 = rk rows r.1) := by
  refine peel_ok hn hK (tags.length + 1) tags (numbered rows) [] (Nat.lt_succ_self _) (numbered_rk rows) ?_ ?_
  · rw [numbered_keys]
    exact Inv.start ht
  · rw [numbered_keys]
    exact ⟨List.Perm.refl _, fun p hp => (by cases hp), fun k hk h => absurd (List.mem_range.mpr hk) h⟩
/-- what the program leaves is what the law leaves -/
theorem ref_left {tags : List Str} {rows : List Rw} (hn : tags.Nodup) (hK : ∀ r ∈ rows, isK r.2) (ht : ∀ r ∈ rows, ∀ x ∈ r.1, x ∈ tags) : (peeledF tags rows).2.map (·.1) = leftF tags rows := (peeled_ok hn hK ht).1.one (left_top ht)
/-! ### what is closed fits no line -/
theorem first_of (R : List Rw) : ∀ (r : List (Str × Str)), (∃ p ∈ r, ∃ w ∈ R, p.2 ∈ w.1) → ∃ x k, (∃ w ∈ R, x ∈ w.1) ∧ ∀ w ∈ R, x ∈ w.1 → outR r w.1 = k
  | [], h => by
    obtain ⟨p, hp, _⟩ := h
    cases hp
  | (k, x) :: r, h => by
    by_cases e : ∃ w ∈ R, x ∈ w.1
    · exact ⟨x, k, e, fun w _ hx => outR_in hx⟩
    · obtain ⟨p, hp, w, hw, hpw⟩ := h
      have hp2 : p ∈ r := by
        rcases List.mem_cons.mp hp with rfl | hp
        · exact absurd ⟨w, hw, hpw⟩ e
        · exact hp
      obtain ⟨y, j, h1, h2⟩ := first_of R r ⟨p, hp2, w, hw, hpw⟩
      exact ⟨y, j, h1, fun w hw hy => by rw [outR_out fun hx => e ⟨w, hw, hx⟩]; exact h2 w hw hy⟩
theorem no_fit {R : List Rw} {l : List (Str × Str)} (hne : R ≠ []) (hl : ∀ w ∈ R, w.1 ≠ []) (ht : ∀ w ∈ R, ∀ x ∈ w.1, x ∈ l.map (·.2)) (hc : ∀ w ∈ R, ∀ x ∈ w.1, ∃ a ∈ R, ∃ b ∈ R, x ∈ a.1 ∧ x ∈ b.1 ∧ a.2 ≠ b.2) : fits l R = false := by
  cases q : fits l R with
  | false => rfl
  | true =>
    have hf : ∀ w ∈ R, outR l.reverse w.1 = w.2 := fun w hw => by
      rw [← outer_rev]
      exact of_decide_eq_true (List.all_eq_true.mp q w hw)
    obtain ⟨w, hw⟩ : ∃ w, w ∈ R := by
      cases R with
      | nil => exact absurd rfl hne
      | cons w R => exact ⟨w, List.mem_cons_self⟩
    obtain ⟨x, hx⟩ : ∃ x, x ∈ w.1 := by
      cases e : w.1 with
      | nil => exact absurd e (hl w hw)
      | cons x r => exact ⟨x, List.mem_cons_self⟩
    obtain ⟨p, hp, e⟩ := List.mem_map.mp (ht w hw x hx)
    obtain ⟨y, k, ⟨v, hv, hy⟩, h2⟩ := first_of R l.reverse ⟨p, List.mem_reverse.mpr hp, w, hw, by rw [show p.2 = x from e]; exact hx⟩
    obtain ⟨a, ha, b, hb, ya, yb, hne2⟩ := hc v hv y hy
    exact absurd (by rw [← hf a ha, ← hf b hb, h2 a ha ya, h2 b hb yb]) hne2
theorem closed_two {rows : List Rw} {ks : List Nat} (hc : Closed rows ks) : ∀ w ∈ ks.map (rk rows), ∀ x ∈ w.1, ∃ a ∈ ks.map (rk rows), ∃ b ∈ ks.map (rk rows), x ∈ a.1 ∧ x ∈ b.1 ∧ a.2 ≠ b.2 := by
  intro w hw x hx
  obtain ⟨k, hk, rfl⟩ := List.mem_map.mp hw
  have z := hc k hk x hx
  refine Classical.byContradiction fun h => z fun a ha b hb xa xb => Classical.byContradiction fun e => h ⟨_, List.mem_map.mpr ⟨a, ha, rfl⟩, _, List.mem_map.mpr ⟨b, hb, rfl⟩, xa, xb, e⟩
theorem fits_sub {l : List (Str × Str)} {rows R : List Rw} (h : ∀ w ∈ R, w ∈ rows) (hf : fits l R = false) : fits l rows = false := by
  cases q : fits l rows with
  | false => rfl
  | true =>
    have z : fits l R = true := List.all_eq_true.mpr fun w hw => List.all_eq_true.mp q w (h w hw)
    rw [hf] at z
    cases z
/-- if something is left, no line over the tags fits -/
theorem left_no_fit {tags : List Str} {rows : List Rw} {l : List (Str × Str)} (ho : overT tags l) (hne : ∀ r ∈ rows, r.1 ≠ []) (ht : ∀ r ∈ rows, ∀ x ∈ r.1, x ∈ tags) (h : leftF tags rows ≠ []) : fits l rows = false := by
  have t := left_top ht
  have hin : ∀ w ∈ (leftF tags rows).map (rk rows), w ∈ rows := fun w hw => by
    obtain ⟨k, hk, rfl⟩ := List.mem_map.mp hw
    exact rk_mem (t.lt k hk)
  refine fits_sub hin (no_fit (fun e => h (List.map_eq_nil_iff.mp e)) (fun w hw => hne w (hin w hw)) (fun w hw x hx => ho.2.mem_iff.mpr (ht w (hin w hw) x hx)) (closed_two t.cl))
end Pk


set_option Elab.async false
set_option linter.all false
set_option maxRecDepth 100000
set_option maxHeartbeats 4000000
/-! PkF25: Roll: text, ==; rolled, one_fitting. -/
namespace Pk
open PySem PySem.Spec PyProof.Rows L2 PkH PySem.W
/-- what else of the text is asked -/
structure TxI (K : PySem.W.Frag) : Prop where
  ic : PySem.W.findIn K (.ref (He.ga K "Roll")) "__class__" = some (some (.builtin "object.__class__"))
  ig : PySem.W.specialIn K (.builtin "object.__class__") "__get__" = some (some (.builtin "getset_descriptor.__get__"))
  it : PySem.W.takesIn K (.builtin "object.__class__") = some true
/-! data that can be compared -/
theorem lay_map {α : Type} (f : α → PyData) : ∀ (xs : List α), (∀ x ∈ xs, (f x).canLay0 = true) → PyData.canLayAll0 (xs.map f) = true
  | [], _ => rfl
  | x :: xs, h => by
    rw [List.map_cons]
    simp [PyData.canLayAll0, h x List.mem_cons_self, lay_map f xs fun y hy => h y (List.mem_cons_of_mem _ hy)]
theorem depth_map {α : Type} (f : α → PyData) (n : Nat) : ∀ (xs : List α), (∀ x ∈ xs, (f x).depth ≤ n) → PyData.depthAll (xs.map f) ≤ n
  | [], _ => Nat.zero_le _
  | x :: xs, h => by
    rw [List.map_cons]
    have a := h x List.mem_cons_self
    have b := depth_map f n xs fun y hy => h y (List.mem_cons_of_mem _ hy)
    simp only [PyData.depthAll]
    omega
theorem lay_tup {α : Type} (f : α → PyData) (n : Nat) {xs : List α} (h : ∀ x ∈ xs, (f x).canLay0 = true ∧ (f x).depth ≤ n) : (PyData.tuple (xs.map f)).canLay0 = true ∧ (PyData.tuple (xs.map f)).depth ≤ n + 1 := by
  have a := lay_map f xs fun x hx => (h x hx).1
  have b := depth_map f n xs fun x hx => (h x hx).2
  refine ⟨by simpa [PyData.canLay0] using a, ?_⟩
  simp only [PyData.depth]
  omega
theorem lay_lst {α : Type} (f : α → PyData) (n : Nat) {xs : List α} (h : ∀ x ∈ xs, (f x).canLay0 = true ∧ (f x).depth ≤ n) : (PyData.list (xs.map f)).canLay0 = true ∧ (PyData.list (xs.map f)).depth ≤ n + 1 := by
  have a := lay_map f xs fun x hx => (h x hx).1
  have b := depth_map f n xs fun x hx => (h x hx).2
  refine ⟨by simpa [PyData.canLay0] using a, ?_⟩
  simp only [PyData.depth]
  omega
theorem lay_str {x : Str} (h : PyData.strOk x = true) : (PyData.str x).canLay0 = true ∧ (PyData.str x).depth ≤ 0 := ⟨by simpa [PyData.canLay0] using h, by simp [PyData.depth]⟩
theorem lay_two {a b : PyData} {n : Nat} (ha : a.canLay0 = true ∧ a.depth ≤ n) (hb : b.canLay0 = true ∧ b.depth ≤ n) : (PyData.tuple [a, b]).canLay0 = true ∧ (PyData.tuple [a, b]).depth ≤ n + 1 := lay_tup id n (xs := [a, b]) fun x hx => by
  rcases List.mem_cons.mp hx with rfl | hx
  · exact ha
  · rw [List.mem_singleton.mp hx]
    exact hb
theorem lay_up {d : PyData} {n m : Nat} (h : d.canLay0 = true ∧ d.depth ≤ n) (hm : n ≤ m) : d.canLay0 = true ∧ d.depth ≤ m := ⟨h.1, Nat.le_trans h.2 hm⟩
theorem lay_TS {xs : List Str} (h : ∀ x ∈ xs, PyData.strOk x = true) : (eTS xs).canLay0 = true ∧ (eTS xs).depth ≤ 1 := lay_tup PyData.str 0 fun x hx => lay_str (h x hx)
theorem lay_shape {d : PyData} {n : Nat} (h : d.canLay0 = true ∧ d.depth ≤ n) (hn : n ≤ 64) : SeqAt.shaped d = true := by
  unfold SeqAt.shaped
  rw [h.1, Bool.true_and]
  exact decide_eq_true (Nat.le_trans h.2 hn)
theorem blk_mem {line : List (Str × Str)} {b : Str × List Str} (h : b ∈ blocks line) : ∀ x ∈ b.2, (b.1, x) ∈ line := by
  intro x hx
  obtain ⟨c, hc, rfl⟩ := List.mem_map.mp h
  have z := mem_flat hc ((setOf_mem _ _).mp hx)
  rw [stretch_flat] at z
  exact z
theorem blk_ne {line : List (Str × Str)} {b : Str × List Str} (h : b ∈ blocks line) : ∃ x, x ∈ b.2 := by
  obtain ⟨c, hc, rfl⟩ := List.mem_map.mp h
  have hne := stretch_ne line c hc
  obtain ⟨z, zs, q⟩ := List.exists_cons_of_ne_nil hne
  exact ⟨z, (setOf_mem c.2 z).mpr (by rw [q]; exact List.mem_cons_self)⟩
theorem lay_blks {line : List (Str × Str)} (h : ∀ p ∈ line, okP p) : (eBlks (blocks line)).canLay0 = true ∧ (eBlks (blocks line)).depth ≤ 3 := lay_tup eBlk 2 fun b hb => by
  obtain ⟨x, hx⟩ := blk_ne hb
  exact lay_two (n := 1) (lay_up (lay_str (h _ (blk_mem hb x hx)).1.ok) (Nat.zero_le _)) (lay_TS fun y hy => (h _ (blk_mem hb y hy)).2.2)
theorem eqv_same {d : PyData} {n : Nat} (h : d.canLay0 = true ∧ d.depth ≤ n) : PyData.eqv d d = true := SeqAt.eqv_refl d h.1
/-! Roll -/
section
variable {w : Wd} {n m l : Nat} {K : PySem.W.Frag} {mg : Str → Option Value} {B : Hp} {σ : L2.St} {ta tb : TE} {line : List (Str × Str)} {P : Pr} {E : XK}
theorem ev_stepsR (T : Txt K mg) (h : Ev w n m ta σ B (RoP K line)) : Ev w n m (tFld K ta "own_steps") σ B (TuP K (line.map (stpP K))) := fun B1 s1 H c Q q =>
  h B1 s1 H c _ fun v B2 H2 g2 c2 ⟨x, dx, tv, bv, e, hx, h1, h2⟩ => ⟨x, cR K, dx, fsR tv bv, tv, e, c2.sub x _ hx, T.cl_Roll, T.n_own_steps, rfl, q tv B2 H2 g2 c2 h1⟩
theorem ev_blocksR (T : Txt K mg) (h : Ev w n m ta σ B (RoP K line)) : Ev w n m (tFld K ta "own_blocks") σ B (DD K (eBlks (blocks line))) := fun B1 s1 H c Q q =>
  h B1 s1 H c _ fun v B2 H2 g2 c2 ⟨x, dx, tv, bv, e, hx, h1, h2⟩ => ⟨x, cR K, dx, fsR tv bv, bv, e, c2.sub x _ hx, T.cl_Roll, T.n_own_blocks, rfl, q bv B2 H2 g2 c2 h2⟩
theorem ev_propR {G : List Pr → Pr → Prop} (h : Ev w n m ta σ B (RoP K line)) (hG : G [RoP K line] P) : Ev w n m (tProp (cR K) (spF G) [] E ta) σ B P := fun B1 s1 H c Q q =>
  h B1 s1 H c _ fun v B2 H2 g2 c2 hv => by
    have hv0 := hv
    obtain ⟨x, dx, tv, bv, rfl, hx, _, _⟩ := hv
    exact ⟨x, dx, _, rfl, c2.sub x _ hx, go_fn (w := w) (n := m) (vs := [.ref x]) (.cons hv0 .nil) hG H2 c2 Q fun v B3 H3 g3 c3 p => q v B3 H3 (g2.trans g3) c3 p⟩
theorem rc_isiR (T : Txt K mg) (I : TxI K) : RC (rIsi K) [RoP K line, VV (.ref (cR K))] (dB K true) := fun w n B vs hv H c Q q => by
  obtain ⟨v, u, rfl, h1, rfl⟩ := two_at hv
  obtain ⟨x, dx, tv, bv, rfl, hx, _, _⟩ := h1
  have hm : PySem.W.mroIn K (cR K) (.type "object") = some true := by
    obtain ⟨cd, hc, ho⟩ := any_some T.cl_Roll.po
    have ne : cd.mro.isEmpty = false := by cases q : cd.mro with | nil => rw [q] at ho; cases ho | cons _ _ => rfl
    unfold mroIn
    rw [hc, Option.bind_some, if_neg (by rw [ne]; decide), only_has ho]
  refine ⟨.ref x, .ref (cR K), .ref (cR K), .ref (cR K), true, rfl, .own _, .base (.ins (c.sub x _ hx) T.cl_Roll I.ic I.ig I.it hm), ?_, q _ B H Gr.refl c (.bl true)⟩
  unfold PySem.W.kitOne
  rw [if_pos (by simp)]
end
def GTextR (K : PySem.W.Frag) : List Pr → Pr → Prop := fun Ps P => ∃ line, Ps = [RoP K line] ∧ 1 ≤ line.length ∧ line.length < 64 ∧ (∀ p ∈ line, p.1.length ≤ 8 ∧ p.2.length ≤ 8) ∧ P = dS K (textOf line)
def GEqR (K : PySem.W.Frag) : List Pr → Pr → Prop := fun Ps P => ∃ l1 l2, Ps = [RoP K l1, RoP K l2] ∧ blocks l1 = blocks l2 ∧ (∀ p ∈ l1, okP p) ∧ P = dB K true
theorem scRText : FnScope ["self", "step"] ["self"] (defScope (inClass (top 41) 3)) := ⟨rfl, rfl, rfl, by decide +kernel, rfl, by decide +kernel, by decide +kernel⟩
theorem scREq : FnScope ["self", "other"] ["self", "other"] (defScope (inClass (top 41) 13)) := ⟨rfl, rfl, rfl, by decide +kernel, rfl, by decide +kernel, by decide +kernel⟩
section
variable {P : Program} {w : World} {K : PySem.W.Frag} {mg : Str → Option Value} {base : Heap}
theorem okRText (T : Txt K mg) {fd : FuncData} (F : FnP K "text" "Roll.text" (inClass (top 41) 3) (getAd "Roll" "text" K) fd) : FnOk P w K mg base CX0 3 (getAd "Roll" "text" K) fd ["self"] (spF (GTextR K)) := by
  have Q_Step_text := propText (P := P) (w := w) (base := base) T
  refine fn_of (k := 2) F scRText (fun Ps P ⟨_, e, _⟩ => by rw [e] <;> rfl) fun cdv A o s H E hr => ?_
  have hr := hr.mono (show 2 ≤ 2 from Nat.le_refl _)
  refine ⟨_, (pss_one (ps_ret (pe_ifExp (pt_cmpR op_gt (pe_callB (kc_len (K := K) rfl) (by rfl) T.m_len PySem.boot_len (pa_cons (ke_fld (K := K) rfl (pe_fld (pv 0) rfl)) pa_nil)) pe_int (nomark _)) (ke_join (K := K) rfl (pe_join pe_str (pe_lc (own := [("step", 1)]) (by rfl) scRText.nd (kp_tup (K := K) rfl (ke_fld (K := K) rfl (pe_fld (pv 0) rfl))) (blkOk_by (by kernel_rfl)) (fun _ _ _ _ _ => (pg_name (i := 1) scRText.nd rfl (by first | exact Or.inl rfl | exact Or.inr rfl))) (fun _ _ _ _ _ => pts_nil) (fun _ _ _ _ _ => (pe_prp Q_Step_text hr (pv 1)))))) (pe_glob (v := .str "-") rfl T.c_NOTHING.choose_spec ⟨_, rfl⟩)))), ?_⟩
  intro H B vs Ps P0 hs hp ⟨line, hP, hl1, hl, hk, hP0⟩ D q
  subst hP hP0
  obtain ⟨v, rfl, h0⟩ := one_of hp
  refine s_ret (m := 0) (P := dS K (textOf line)) (at0 hs) (ev_if (m := 0) (b := true) (et_test (K := K) ((ev_op (ev_cb (ea_cons (ev_stepsR T (ev_var (i := 0) rfl h0)) ea_nil) rc_lenT) (ev_int (K := K)) rv_I0b).to (congrArg (dB K) (by rw [List.length_map]; exact decide_eq_true (by omega))))) (fun _ => ?yes) (fun z => by cases z)) fun v B' H' a s hv => q _ v B' H' a hv
  case yes =>
    refine ev_join (ys := line.map spell) (ev_str (K := K)) ((ev_lo (ev_lc1 (K := K) (c := 0) (xs := line) (fun p => dS K (spell p)) (es_tup (Y := stpP K) (ev_stepsR T (ev_var (i := 0) rfl h0))).s (by omega) fun p v B1 k hx s1 hv => ⟨_, tg_name, rfl, ev_propS (ev_var (i := 1) rfl hv) ⟨p.1, p.2, rfl, (hk p hx).1, (hk p hx).2, rfl⟩⟩)).to (P' := LiP K ((line.map spell).map (dS K))) (by rw [List.map_map] <;> rfl)) ?len
    have q := sum_le_mul ((line.map spell).map (·.length)) 17 fun x hx => by
      obtain ⟨y, hy, rfl⟩ := List.mem_map.mp hx
      obtain ⟨p, hp, rfl⟩ := List.mem_map.mp hy
      have z := hk p hp
      unfold spell
      rw [str_app_len, str_app_len]
      have e1 : Str.length (" " : Str) = 1 := by decide +kernel
      omega
    rw [List.length_map, List.length_map] at q
    rw [List.length_map]
    have e2 : Str.length ("; " : Str) = 2 := by decide +kernel
    rw [e2]
    omega
theorem okREq (T : Txt K mg) (I : TxI K) {fd : FuncData} (F : FnP K "__eq__" "Roll.__eq__" (inClass (top 41) 13) (He.ma K (He.ga K "Roll") "__eq__") fd) : FnOk P w K mg base CX0 1 (He.ma K (He.ga K "Roll") "__eq__") fd ["self", "other"] (spF (GEqR K)) := by
  refine fn_of (k := 0) F scREq (fun Ps P ⟨_, _, e, _⟩ => by rw [e] <;> rfl) fun cdv A o s H E hr => ?_
  refine ⟨_, (pss_one (ps_ret (pe_and (pe_callB (kc_isi (K := K) rfl) (by rfl) T.m_isinstance (by decide +kernel) (pa_cons (pv 1) (pa_cons (pe_glob (v := .ref (He.ga K "Roll")) rfl T.g_Roll rfl) pa_nil))) (pe_one (pe_cmpR (ko_eq (K := K) rfl hr.units) (ke_fld (K := K) rfl (pe_fld (pv 0) rfl)) (ke_fld (K := K) rfl (pe_fld (pv 1) rfl)) (nomark _)))))), ?_⟩
  intro H B vs Ps P0 hs hp ⟨l1, l2, hP, hb, hok, hP0⟩ D q
  subst hP hP0
  obtain ⟨v1, v2, rfl, h1, h2⟩ := two_at hp
  have lay := lay_blks hok
  refine s_ret (m := 0) (P := dB K true) (at0 hs) ((ev_andV (K := K) (a := true) (b := true) (ev_cb (ea_cons (ev_var (i := 1) rfl h2) (ea_cons (ev_c (P := VV (.ref (cR K))) rfl) ea_nil)) (rc_isiR T I)) fun _ => (ev_op (ev_blocksR T (ev_var (i := 0) rfl h1)) ((ev_blocksR T (ev_var (i := 1) rfl h2)).to (P' := DD K (eBlks (blocks l1))) (by rw [hb])) (rv_eqD (lay_shape lay (by decide)) (lay_shape lay (by decide)))).to (congrArg (dB K) (eqv_same lay)))) fun v B' H' a s hv => q _ v B' H' a hv
theorem propTextR (T : Txt K mg) : PropAt P w K mg base 3 (cR K) "text" (spF (GTextR K)) := by
  obtain ⟨fd, F⟩ := T.f_Roll_text
  exact ⟨_, _, fd, T.p_Roll_text, okRText T F, F.bindsN fun _ _ _ _ _ _ us hl => match us, hl with | [_], _ => rfl, T.cl_Roll⟩
end
end Pk


set_option Elab.async false
set_option linter.all false
set_option maxRecDepth 100000
set_option maxHeartbeats 4000000
/-! PkF26: rolled, one_fitting. -/
namespace Pk
open PySem PySem.Spec PyProof.Rows L2 PkH PySem.W
section
variable {S0 : Addr → Prop} {w : Wd} {n m : Nat} {K : PySem.W.Frag} {B0 H0 B H : Hp} {D : Ends} {σ : L2.St} {te : TE} {tz : TS}
/-- a, b = e: e gives two things -/
theorem q_two {i j : Nat} {P1 P2 : Pr} (t : At S0 w n B0 H0 B H) (h : Ev w n m te σ B (TuP K [P1, P2])) (q : ∀ v1 v2 B' H', At S0 w m B0 H0 B' H' → Same B B' → P1.p v1 B' → P2.p v2 B' → tz D ((σ.set i (some v1)).set j (some v2)) H') :
    tSeq (tAsg te (gTup K 2 (gCons (gName i) (gCons (gName j) gNil)))) tz D σ H :=
  t.use (Q := fun x H1 => gTup K 2 (gCons (gName i) (gCons (gName j) gNil)) x σ H1 fun σ' H' => tz D σ' H') (h B (Same.refl B)) fun v B1 H1 t1 s1 hv => by
    obtain ⟨a, v1, v2, rfl, hT, e1, e2⟩ := two_of hv
    exact tg_two hT H1 _ t1.c.sub (q v1 v2 B1 H1 t1 s1 e1 e2)
end
/-- a line whose labels may stand in a roll-up -/
def fineLine (l : List (Str × Str)) : Prop := (∀ p ∈ l, isK p.1 ∧ okName p.2 ∧ okS p.2) ∧ (l.map (·.2)).Nodup ∧ l.length < 64
theorem fineLine.plain {l : List (Str × Str)} (h : fineLine l) : fineLine (plainP l) := by
  have e := plainP_labels h.2.1
  refine ⟨fun p hp => h.1 p ((plainP_mem l p).mp hp), e.nodup_iff.mpr h.2.1, ?_⟩
  have z := e.length_eq
  rw [List.length_map, List.length_map] at z
  rw [z]
  exact h.2.2
theorem fineLine.ok {l : List (Str × Str)} (h : fineLine l) : okLine l := ⟨fun p hp => ⟨(h.1 p hp).1, (h.1 p hp).2.1⟩, h.2⟩
def GRolled (K : PySem.W.Frag) : List Pr → Pr → Prop := fun Ps P => ∃ line, Ps = [LiP K (line.map fun p => DD K (eSS p))] ∧ fineLine line ∧ P = RoP K (plainP line)
theorem scRolled : FnScope ["line", "kind", "label"] ["line"] (defScope (top 44)) := ⟨rfl, rfl, rfl, by decide +kernel, rfl, by decide +kernel, by decide +kernel⟩
theorem scOneF : FnScope ["labels", "answers", "found", "left"] ["labels", "answers"] (defScope (top 47)) := ⟨rfl, rfl, rfl, by decide +kernel, rfl, by decide +kernel, by decide +kernel⟩
/-- what one_fitting gives -/
def oneP (K : PySem.W.Frag) (tags : List Str) (rows : List (List Str × Str)) : Pr := if (peeledF tags rows).2 = [] then RoP K (plainP (peeledF tags rows).1.reverse) else DD K .none
/-- labels, answers as the law asks them -/
structure okCase (tags : List Str) (rows : List (List Str × Str)) : Prop where
  nd : tags.Nodup
  nm : ∀ x ∈ tags, okName x ∧ okS x
  kn : ∀ r ∈ rows, isK r.2
  sub : ∀ r ∈ rows, ∀ x ∈ r.1, x ∈ tags
  tl : tags.length < 64
  rl : rows.length < 64
theorem okCase.line {tags : List Str} {rows : List (List Str × Str)} (c : okCase tags rows) {l : List (Str × Str)} (h : overT tags l) : fineLine l := by
  refine ⟨fun p hp => ⟨h.1 p hp, c.nm p.2 (h.2.mem_iff.mp (List.mem_map.mpr ⟨p, hp, rfl⟩))⟩, h.2.nodup_iff.mpr c.nd, ?_⟩
  have z := h.2.length_eq
  rw [List.length_map] at z
  rw [z]
  exact c.tl
def GOneF (K : PySem.W.Frag) (N : Nat) : List Pr → Pr → Prop := fun Ps P => ∃ (tags : List Str) (rows : List (List Str × Str)) (d : PyData) (A : Pr), Ps = [A, DD K d] ∧ (A = LiP K (tags.map (dS K)) ∨ A = TuP K (tags.map (dS K))) ∧ noDict d = true ∧ wide d ∧ lev d ≤ N ∧ tupD d = eRows rows ∧ okCase tags rows ∧ P = oneP K tags rows
section
variable {P : Program} {w : World} {K : PySem.W.Frag} {mg : Str → Option Value} {base : Heap}
theorem calRolled (T : Txt K mg) : Cal P w K mg base 5 "rolled" ["line"] (spF (GRolled K)) := by
  obtain ⟨fd, F⟩ := T.f_rolled
  obtain ⟨fr, Fr⟩ := T.f_Roll_init
  obtain ⟨fs, Fs⟩ := T.f_Step_init
  have C_plain_of := calPlain (P := P) (w := w) (base := base) T
  have MK_Roll := T.mk_Roll
  have MK_Step := T.mk_Step
  have G_Roll := okRoll (P := P) (w := w) (base := base) T Fr
  have G_Step := (okStep (P := P) (w := w) (base := base) T Fs).mono (show 2 ≤ 3 by decide)
  have B_Roll := bindRoll T Fr
  have B_Step : Binds K fs ["self", "kind", "label"] [] := Fs.bindsN fun _ _ _ _ _ _ us hl => match us, hl with | [_, _, _], _ => rfl
  refine cal_of (k := 4) F T.g_rolled scRolled (fun Ps P ⟨_, e, _⟩ => by rw [e] <;> rfl) (fun _ _ _ _ _ _ us hl => match us, hl with | [_], _ => rfl) fun cdv A o s H E hr => ?_
  refine ⟨_, (pss_one (ps_ret (pe_make MK_Roll G_Roll hr (by rfl) T.g_Roll B_Roll .nil pass0 (pa_cons (pe_lc (own := [("kind", 1), ("label", 2)]) (by rfl) scRolled.nd (kp_tup (K := K) rfl (pe_cal C_plain_of hr (pa_cons (pv 0) pa_nil))) (blkOk_by (by kernel_rfl)) (fun _ _ _ _ _ => (kg_tup (K := K) (n := 2) rfl rfl (pgs_cons (pg_name (i := 1) scRolled.nd rfl (by first | exact Or.inl rfl | exact Or.inr rfl)) (pgs_cons (pg_name (i := 2) scRolled.nd rfl (by first | exact Or.inl rfl | exact Or.inr rfl)) pgs_nil)))) (fun _ _ _ _ _ => pts_nil) (fun _ _ _ _ _ => (pe_make MK_Step G_Step hr (by rfl) T.g_Step B_Step .nil pass0 (pa_cons (pv 1) (pa_cons (pv 2) pa_nil))))) pa_nil)))), ?_⟩
  intro H B vs Ps P0 hs hp ⟨line, hP, hl, hP0⟩ D q
  subst hP hP0
  obtain ⟨v, rfl, h0⟩ := one_of hp
  refine s_ret (m := 0) (P := RoP K (plainP line)) (at0 hs) (ev_roll (ea_cons (ev_lo (Ev.f (n := 0) (m := 0 + (plainP line).length * 0) free_w0 (ev_lc1 (K := K) (c := 0) (xs := plainP line) (stpP K) (es_tup (Y := fun p => DD K (eSS p)) ((ev_fn (ea_cons (ev_var (i := 0) rfl h0) ea_nil) ⟨line, rfl, hl.2.2, fun p hp => (hl.1 p hp).1, rfl⟩).imp fun v B' hv => tt_line hv)).s (by have z := hl.plain.2.2; omega) fun p v B1 k hx s1 hv => ?el))) ea_nil) hl.plain.ok) fun v B' H' a s hv => q _ v B' H' a hv
  case el =>
    obtain ⟨a, v1, v2, rfl, hT, e1, e2⟩ := two_ss hv
    have z := hl.plain.1 p hx
    exact ⟨_, tg_two hT, rfl, ev_step (ea_cons (ev_var (i := 1) rfl e1) (ea_cons (ev_var (i := 2) rfl e2) ea_nil)) z.1 z.2.1⟩
theorem calOneFF (T : Txt K mg) (N : Nat) : CalF P w K mg base (N + 6) "one_fitting" "one_fitting" (top 47) ["labels", "answers"] (spF (GOneF K N)) := by
  obtain ⟨fd, F⟩ := T.f_one_fitting
  have C_peeled := (calPeel (P := P) (w := w) (base := base) T N).mono (k := N + 5) (by omega)
  have C_rolled := (calRolled (P := P) (w := w) (base := base) T).mono (k := N + 5) (by omega)
  refine calF_of (k := N + 5) F T.g_one_fitting scOneF (fun Ps P ⟨_, _, _, _, e, _⟩ => by rw [e] <;> rfl) (fun _ _ _ _ _ _ us hl => match us, hl with | [_, _], _ => rfl) fun cdv A o s H E hr => ?_
  refine ⟨_, (pss_cons (ps_asg (pe_cal C_peeled hr (pa_cons (pv 0) (pa_cons (pv 1) pa_nil))) (kg_tup (K := K) (n := 2) rfl rfl (pgs_cons (pg_name (i := 2) scOneF.nd rfl (by first | exact Or.inl rfl | exact Or.inr rfl)) (pgs_cons (pg_name (i := 3) scOneF.nd rfl (by first | exact Or.inl rfl | exact Or.inr rfl)) pgs_nil))))
    (pss_one (ps_ret (pe_ifExp (pt_cmpR op_gt (pe_callB (kc_len (K := K) rfl) (by rfl) T.m_len PySem.boot_len (pa_cons (pv 3) pa_nil)) pe_int (nomark _)) pe_non (pe_cal C_rolled hr (pa_cons (ke_rev (K := K) rfl (pv 2)) pa_nil)))))), ?_⟩
  intro H B vs Ps P0 hs hp ⟨tags, rows, d, A, hP, hA, d1, d2, d3, d4, ok, hP0⟩ D q
  subst hP hP0
  obtain ⟨lv, av, rfl, h0, h1⟩ := two_at hp
  have pk := peeled_ok ok.nd ok.kn ok.sub
  refine q_two (m := 0) (i := 2) (j := 3) (at0 hs) (ev_fn (ea_cons (ev_var (i := 0) rfl h0) (ea_cons (ev_var (i := 1) rfl h1) ea_nil)) ⟨tags, rows, d, A, rfl, hA, d1, d2, d3, d4, ok.tl, ok.rl, rfl⟩) fun fv lf B1 H1 t1 s1 hf hl => ?_
  refine s_ret (m := 0) (P := oneP K tags rows) t1 (ev_if (m := 0) (b := decide (0 < (peeledF tags rows).2.length)) (et_test (K := K) ((ev_op (ev_cb (ea_cons (ev_var (i := 3) rfl hl) ea_nil) rc_lenT) (ev_int (K := K)) rv_I0b).to (congrArg (dB K) (by rw [List.length_map]; exact decide_eq_decide.mpr (by omega))))) (fun hb => ?a) (fun hb => ?b)) fun v B' H' a s hv => q _ v B' H' a hv
  case a =>
    have hne : (peeledF tags rows).2 ≠ [] := fun e => by
      have z := of_decide_eq_true hb
      rw [e] at z
      cases z
    unfold oneP
    rw [if_neg hne]
    exact ev_non
  case b =>
    have he : (peeledF tags rows).2 = [] := List.eq_nil_of_length_eq_zero (by have z := of_decide_eq_false hb; omega)
    unfold oneP
    rw [if_pos he]
    have hfine := ok.line (pk.2.1 he).1
    refine ev_fn (ea_cons ((ev_lo (ev_revL (ev_var (i := 2) rfl hf))).to (P' := LiP K ((peeledF tags rows).1.reverse.map fun p => DD K (eSS p))) (by rw [List.map_reverse])) ea_nil) ⟨_, rfl, hfine, rfl⟩
theorem calOneF (T : Txt K mg) (N : Nat) : Cal P w K mg base (N + 6) "one_fitting" ["labels", "answers"] (spF (GOneF K N)) := (calOneFF T N).cal
end
end Pk


set_option Elab.async false
set_option linter.all false
set_option maxRecDepth 100000
set_option maxHeartbeats 4000000
/-! PkF27: is_refuting. -/
namespace Pk
open PySem PySem.Spec PyProof.Rows L2 PkH PySem.W
def isRefF (rows : List (List Str × Str)) (ns : List Int) : Bool :=
  !ns.isEmpty && (decide (ns.Pairwise (· < ·)) && (decide (0 ≤ ns.headD 0) && (decide (ns.getLastD 0 < (rows.length : Nat)) && ((rowsAt rows ns).flatMap fun r => r.1.map fun x => decide ((kindsAt x (rowsAt rows ns)).length = 2)).all id)))
def GIsRef (K : PySem.W.Frag) (N : Nat) : List Pr → Pr → Prop := fun Ps P => ∃ (rows : List (List Str × Str)) (d m : PyData) (A : Pr), Ps = [A, DD K d, DD K m] ∧ noDict d = true ∧ wide d ∧ lev d ≤ N ∧ tupD d = eRows rows ∧ rows.length < 64 ∧ (∀ r ∈ rows, r.1.length ≤ 64) ∧ (∃ ds, (d = .list ds ∨ d = .tuple ds) ∧ ds.length = rows.length) ∧
  ((isDict m = false ∧ (∀ xs, m ≠ .tuple xs) ∧ P = dB K false) ∨ ((∃ b, m = .tuple [.bool b]) ∧ P = dB K false) ∨ ∃ ns : List Int, m = .tuple (ns.map .int) ∧ ns.length < 64 ∧ P = dB K (isRefF rows ns))
theorem eqvAll_ints : ∀ ns ms : List Int, PyData.eqvAll (ns.map .int) (ms.map .int) = decide (ns = ms)
  | [], [] => rfl
  | [], _ :: _ => by simp [PyData.eqvAll]
  | _ :: _, [] => by simp [PyData.eqvAll]
  | n :: ns, m :: ms => by
    rw [List.map_cons, List.map_cons, eqv_all_cons, eqvAll_ints ns ms]
    by_cases h : n = m
    · subst h
      simp [PyData.eqv]
    · have e : PyData.eqv (.int n) (.int m) = false := by simp [PyData.eqv, h]
      rw [e]
      simp [h]
theorem eqv_intsT (ns ms : List Int) : PyData.eqv (.tuple (ns.map .int)) (.tuple (ms.map .int)) = decide (ns = ms) := by
  rw [← eqvAll_ints]
  simp [PyData.eqv]
theorem set_up {ns ms : List Int} (h1 : ms.Pairwise (· < ·)) (h2 : ∀ k, k ∈ ms ↔ k ∈ ns) : ns = ms ↔ ns.Pairwise (· < ·) := by
  constructor
  · intro e
    rw [e]
    exact h1
  · intro h
    have nd : ∀ zs : List Int, zs.Pairwise (· < ·) → zs.Nodup := fun zs hz => hz.imp fun h => by omega
    exact List.Perm.eq_of_pairwise (le := (· < ·)) (fun a b _ _ p q => by omega) h h1 ((List.perm_ext_iff_of_nodup (nd _ h) (nd _ h1)).mpr fun k => (h2 k).symm)
theorem up_in {rows : List (List Str × Str)} {ns : List Int} (h : ns.Pairwise (· < ·)) (h0 : 0 ≤ ns.headD 0) (h1 : ns.getLastD 0 < (rows.length : Nat)) : ∀ n ∈ ns, inR rows n = true := by
  intro n hn
  unfold inR
  rw [Bool.and_eq_true]
  refine ⟨decide_eq_true ?_, decide_eq_true ?_⟩
  · cases ns with
    | nil => cases hn
    | cons x r =>
      have z : 0 ≤ x := h0
      rcases List.mem_cons.mp hn with rfl | hn
      · exact z
      · have y := (List.pairwise_cons.mp h).1 n hn
        omega
  · rcases List.eq_nil_or_concat ns with rfl | ⟨r, x, rfl⟩
    · cases hn
    · rw [List.concat_eq_append] at hn h h1
      have z : x < (rows.length : Nat) := by simpa using h1
      rcases List.mem_append.mp hn with hn | hn
      · have y := (List.pairwise_append.mp h).2.2 n hn x (List.mem_singleton.mpr rfl)
        omega
      · rw [List.mem_singleton.mp hn]
        exact z
theorem scIsRef : FnScope ["labels", "answers", "thing", "rows", "number", "name", "names", "kind", "one"] ["labels", "answers", "thing"] (defScope (top 49)) := ⟨rfl, rfl, rfl, by decide +kernel, rfl, by decide +kernel, by decide +kernel⟩
section
variable {P : Program} {w : World} {K : PySem.W.Frag} {mg : Str → Option Value} {base : Heap} {B : Hp}
theorem rv_neSet {ns : List Int} : RV (rNeD K) (DD K (.tuple (ns.map .int))) (setInts K ns) (dB K (!decide (ns.Pairwise (· < ·)))) := fun w n B x y hx ⟨ms, h1, h2, h3⟩ H c Q q =>
  rv_neD (shaped_intsT ns) (shaped_intsT ms) w n B x y hx h3 H c Q fun v B' H' g c' hv => q v B' H' g c' (by
    rw [eqv_intsT, decide_eq_decide.mpr (set_up h1 h2)] at hv
    exact hv)
/-- len of data, a list or a tuple -/
theorem ev_lenD {w : Wd} {n m : Nat} {σ : L2.St} {te : TE} {d : PyData} {ds : List PyData} (h : Ev w n m te σ B (DD K d)) (hd : d = .list ds ∨ d = .tuple ds) : Ev w n m (tCB (fun xs H Q => ∃ p ys, xs = [V.ref p] ∧ (SqL K H p ys ∨ SqT K H p ys) ∧ Q (.int ys.length) H) (tCons te tNil)) σ B (dI K (ds.length : Nat)) := by
  rcases hd with rfl | rfl
  · exact (ev_cb (ea_cons (ev_ddl h) ea_nil) rc_lenL).to (by rw [List.length_map])
  · exact (ev_cb (ea_cons (ev_ddt h) ea_nil) rc_lenT).to (by rw [List.length_map])
theorem calIsRefF (T : Txt K mg) (N : Nat) : CalF P w K mg base (N + 4) "is_refuting" "is_refuting" (top 49) ["labels", "answers", "thing"] (spF (GIsRef K N)) := by
  obtain ⟨fd, F⟩ := T.f_is_refuting
  have C_tupled := (calTup (P := P) (w := w) (base := base) T N).mono (k := N + 3) (by omega)
  have C_is_number := (calNum (P := P) (w := w) (base := base) T).mono (k := N + 3) (by omega)
  have C_set_of := (calSet (P := P) (w := w) (base := base) T).mono (k := N + 3) (by omega)
  have C_kinds_at := (calKinds (P := P) (w := w) (base := base) T).mono (k := N + 3) (by omega)
  refine calF_of (k := N + 3) F T.g_is_refuting scIsRef (fun Ps P ⟨_, _, _, _, e, _⟩ => by rw [e] <;> rfl) (fun _ _ _ _ _ _ us hl => match us, hl with | [_, _, _], _ => rfl) fun cdv A o s H E hr => ?_
  refine ⟨_, (pss_cons (ps_if (PW.pt (pw_or (pt_not (pt_val (pe_callB (kc_isi (K := K) rfl) (by rfl) T.m_isinstance (by decide +kernel) (pa_cons (pv 2) (pa_cons (pe_bltn (v := .ty "tuple") (by rfl) T.m_tuple (by decide +kernel) rfl) pa_nil))))) (pw_or (pt_cmpR op_eq (pe_callB (kc_len (K := K) rfl) (by rfl) T.m_len PySem.boot_len (pa_cons (pv 2) pa_nil)) pe_int (nomark _)) (pw_or1 (pt_not (pt_val (pe_callB (kc_all (K := K) rfl rfl) (by rfl) T.m_all (by decide +kernel) (pa_cons (pe_lc (own := [("one", 8)]) (by rfl) scIsRef.nd (kp_tup (K := K) rfl (pv 2)) (blkOk_by (by kernel_rfl)) (fun _ _ _ _ _ => (pg_name (i := 8) scIsRef.nd rfl (by first | exact Or.inl rfl | exact Or.inr rfl))) (fun _ _ _ _ _ => pts_nil) (fun _ _ _ _ _ => (pe_cal C_is_number hr (pa_cons (pv 8) pa_nil)))) pa_nil)))))))) (pss_one (ps_ret pe_bl)) pss_nil)
    (pss_cons (ps_if (PW.pt (pw_or (pt_cmpR (ko_ne (K := K) rfl hr.units) (pv 2) (pe_cal C_set_of hr (pa_cons (pv 2) pa_nil)) (nomark _)) (pw_or (pt_cmpR op_lt (pe_ix (kx_tup (K := K) rfl) (pv 2) pe_int (fun _ _ => rfl)) pe_int (nomark _)) (pw_or1 (pt_cmpR op_ge (pe_ix (kx_tup (K := K) rfl) (pv 2) (pe_un un_neg pe_int) (fun _ _ => rfl)) (pe_callB (kc_len (K := K) rfl) (by rfl) T.m_len PySem.boot_len (pa_cons (pv 1) pa_nil)) (nomark _)))))) (pss_one (ps_ret pe_bl)) pss_nil)
    (pss_cons (ps_set (i := 3) scIsRef.nd rfl (by first | exact Or.inl rfl | exact Or.inr rfl) (pe_lc (own := [("number", 4)]) (by rfl) scIsRef.nd (kp_tup (K := K) rfl (pv 2)) (blkOk_by (by kernel_rfl)) (fun _ _ _ _ _ => (pg_name (i := 4) scIsRef.nd rfl (by first | exact Or.inl rfl | exact Or.inr rfl))) (fun _ _ _ _ _ => pts_nil) (fun _ _ _ _ _ => (pe_ix (kx_tup (K := K) rfl) (pe_cal C_tupled hr (pa_cons (pv 1) pa_nil)) (pv 4) (fun _ _ => rfl)))))
    (pss_one (ps_ret (pe_callB (kc_all (K := K) rfl rfl) (by rfl) T.m_all (by decide +kernel) (pa_cons (pe_lc2 (own := [("names", 6), ("kind", 7), ("name", 5)]) (vs1 := [5]) (by rfl) scIsRef.nd (kp_list (K := K) rfl (pv 3)) (blkOk_by (by kernel_rfl)) (by decide) (fun _ _ _ _ _ => (kg_tup (K := K) (n := 2) rfl rfl (pgs_cons (pg_name (i := 6) scIsRef.nd rfl (by first | exact Or.inl rfl | exact Or.inr rfl)) (pgs_cons (pg_name (i := 7) scIsRef.nd rfl (by first | exact Or.inl rfl | exact Or.inr rfl)) pgs_nil)))) (fun _ _ _ _ _ => pts_nil) (fun _ _ _ _ _ => (kp_tup (K := K) rfl (pv 6))) (fun _ _ _ _ _ => (pg_name (i := 5) scIsRef.nd rfl (by first | exact Or.inl rfl | exact Or.inr rfl))) (fun _ _ _ _ _ => pts_nil) (fun _ _ _ _ _ => (pe_cmpR op_eq (pe_callB (kc_len (K := K) rfl) (by rfl) T.m_len PySem.boot_len (pa_cons (pe_cal C_kinds_at hr (pa_cons (pv 5) (pa_cons (pv 3) pa_nil))) pa_nil)) (pe_glob (v := .int 2) rfl T.c_two.choose_spec ⟨_, rfl⟩) (nomark _)))) pa_nil))))))), ?_⟩
  intro H B vs Ps P0 hs hp ⟨rows, d, m, A, hP, d1, d2, d3, d4, hl, hl2, ⟨ds, hds, hdl⟩, hG⟩ D q
  subst hP
  obtain ⟨lv, av, tv, rfl, h0, h1, h2⟩ : ∃ lv av tv, vs = [lv, av, tv] ∧ A.p lv B ∧ (DD K d).p av B ∧ (DD K m).p tv B := by
    cases hp with
    | cons a hp =>
      obtain ⟨v, u, rfl, b, c⟩ := two_at hp
      exact ⟨_, _, _, rfl, a, b, c⟩
  rcases hG with ⟨hd, hnt, rfl⟩ | ⟨⟨b, rfl⟩, rfl⟩ | ⟨ns, rfl, hn, rfl⟩
  · have k1 : (kitB (tyName m) "tuple").isSome = true := by cases m <;> first | rfl | (simp [isDict] at hd)
    have k2 : isTy m "tuple" = false := by
      cases m with
      | tuple xs => exact absurd rfl (hnt xs)
      | dict _ => simp [isDict] at hd
      | _ => rfl
    refine q_when (m := 0) (b := true) (at0 hs) ((et_or (a := true) (b := false) ((et_not (et_test (ev_isi (i := 2) rfl h2 k1))).to (by rw [k2] <;> rfl)) fun z => by cases z).to rfl) (fun _ B' H' t' s' => ?_) fun z => by cases z
    exact s_ret (m := 0) t' (ev_bl (K := K)) fun v B' H' a s hv => q _ v B' H' a hv
  · refine q_when (m := 0) (b := true) (at0 hs) ((et_or (a := false) (b := true) ((et_not (et_test (ev_isi (i := 2) rfl h2 rfl))).to rfl) fun _ => (et_or (a := false) (b := true) (et_test (K := K) ((ev_op (ev_lenD (ev_var (i := 2) rfl h2) (.inr rfl)) (ev_int (K := K)) rv_eqI).to rfl)) fun _ => (et_not (et_test (K := K) (ev_cb (ea_cons (ev_lo (ev_lc1 (K := K) (c := 0) (xs := [b]) (fun b => dB K false) (es_tup (Y := fun b => dB K b) (ev_var (i := 2) rfl (dd_tt h2))).s (by simp) fun x v B2 l hx s2 hv => ⟨_, tg_name, rfl, (ev_fn (ea_cons (ev_var (i := 8) rfl hv) ea_nil) ⟨.bool x, rfl, rfl, rfl⟩)⟩)) ea_nil) (rc_all (bs := [false]))))).to rfl).to rfl).to rfl) (fun _ B' H' t' s' => ?_) fun z => by cases z
    exact s_ret (m := 0) t' (ev_bl (K := K)) fun v B' H' a s hv => q _ v B' H' a hv
  · have hnsT : ∀ B1, Same B B1 → (TuP K (ns.map (dI K))).p tv B1 := fun B1 s1 => tt_map (f := PyData.int) (dd_up h2 s1)
    have hnum : ((ns.map fun _ => true).all id) = true := by
      rw [List.all_map]
      exact List.all_eq_true.mpr fun _ _ => rfl
    refine q_when (m := 0) (b := ns.isEmpty) (at0 hs) (EvT.z (n := 0) (m := 0 + ns.length * 0) ((et_or (a := false) (b := ns.isEmpty) ((et_not (et_test (ev_isi (i := 2) rfl h2 rfl))).to rfl) fun _ => (et_or (m := 0) (a := ns.isEmpty) (b := false) (et_test (K := K) ((ev_op (ev_lenD (ev_var (i := 2) rfl h2) (.inr rfl)) (ev_int (K := K)) rv_eqI).to (congrArg (dB K) (by rw [List.length_map]; cases ns <;> simp <;> omega)))) fun _ => (et_not (et_test (K := K) ((ev_cb (ea_cons (ev_lo ((ev_lc1 (K := K) (c := 0) (xs := ns) (fun _ => dB K true) (es_tup (Y := fun n => dI K n) (ev_var (i := 2) rfl (hnsT B (Same.refl B)))).s (by omega) fun x v B2 l hx s2 hv => ⟨_, tg_name, rfl, (ev_fn (ea_cons (ev_var (i := 8) rfl hv) ea_nil) ⟨.int x, rfl, rfl, rfl⟩)⟩).to (P' := LoP K ((ns.map fun _ => true).map (dB K))) (by rw [List.map_map] <;> rfl))) ea_nil) rc_all).to (congrArg (dB K) hnum)))).to rfl).to (by simp)).to (by simp))) (fun hb B1 H1 t1 s1 => ?_) fun hb B1 H1 t1 s1 => ?_
    · refine s_ret (m := 0) (P := dB K (isRefF rows ns)) t1 ?_ fun v B' H' a s hv => q _ v B' H' a hv
      have e : isRefF rows ns = false := by
        unfold isRefF
        rw [hb] <;> rfl
      rw [e]
      exact ev_bl
    have hne : ns ≠ [] := fun e => by rw [e] at hb; cases hb
    have hhd : atI (ns.map (dI K)) 0 = some (dI K (ns.headD 0)) := by
      cases ns with
      | nil => exact absurd rfl hne
      | cons x r => exact atI_zero _ _
    refine q_when (m := 0) (b := !decide (ns.Pairwise (· < ·)) || (decide (ns.headD 0 < 0) || decide (((rows.length : Nat) : Int) ≤ ns.getLastD 0))) t1 (et_or (et_test (K := K) (ev_op (ev_var (i := 2) rfl (dd_up h2 s1)) (ev_fn (ea_cons (ev_var (i := 2) rfl (hnsT B1 s1)) ea_nil) (.inr ⟨ns, rfl, hn, rfl⟩)) rv_neSet)) fun _ => et_or (et_test (K := K) (ev_op (ev_op (ev_var (i := 2) rfl (hnsT B1 s1)) (ev_int (K := K)) (rv_ixT hhd)) (ev_int (K := K)) (rv_I0b (g := fun i j => decide (i < j))))) fun _ => et_test (K := K) ((ev_op (ev_op (ev_var (i := 2) rfl (hnsT B1 s1)) (ev_un (ev_int (K := K)) ru_neg) (rv_ixT (last_at (dI K) (d := 0) hne))) (ev_lenD (ev_var (i := 1) rfl (dd_up h1 s1)) hds) (rv_I0b (g := fun i j => decide (j ≤ i)))).to (congrArg (dB K) (by rw [hdl])))) (fun hb2 B2 H2 t2 s2 => ?_) fun hb2 B2 H2 t2 s2 => ?_
    · refine s_ret (m := 0) (P := dB K (isRefF rows ns)) t2 ?_ fun v B' H' a s hv => q _ v B' H' a hv
      have e : isRefF rows ns = false := by
        unfold isRefF
        rw [Bool.or_eq_true, Bool.or_eq_true] at hb2
        rcases hb2 with z | z | z
        · rw [show decide (ns.Pairwise (· < ·)) = false by simpa using z]
          simp
        · rw [show decide (0 ≤ ns.headD 0) = false from decide_eq_false (by have y := of_decide_eq_true z; omega)]
          simp
        · rw [show decide (ns.getLastD 0 < ((rows.length : Nat) : Int)) = false from decide_eq_false (by have y := of_decide_eq_true z; omega)]
          simp
      rw [e]
      exact ev_bl
    rw [Bool.or_eq_false_iff, Bool.or_eq_false_iff] at hb2
    have hup : decide (ns.Pairwise (· < ·)) = true := by simpa using hb2.1
    have h0' : 0 ≤ ns.headD 0 := by have z := of_decide_eq_false hb2.2.1; omega
    have h1' : ns.getLastD 0 < ((rows.length : Nat) : Int) := by have z := of_decide_eq_false hb2.2.2; omega
    have hin := up_in (of_decide_eq_true hup) h0' h1'
    have hmir : isRefF rows ns = ((rowsAt rows ns).flatMap fun r => r.1.map fun x => decide ((kindsAt x (rowsAt rows ns)).length = 2)).all id := by
      unfold isRefF
      rw [hup, decide_eq_true h0', decide_eq_true h1', show ns.isEmpty = false from hb] <;> rfl
    have hlen2 : (rowsAt rows ns).length < 64 := by
      unfold rowsAt
      rw [List.length_map]
      exact hn
    have hrl : ∀ r ∈ rowsAt rows ns, r.1.length ≤ 64 := fun r hr => by
      obtain ⟨n, hn, rfl⟩ := List.mem_map.mp hr
      have z := hin n hn
      unfold inR at z
      rw [Bool.and_eq_true] at z
      have g1 : 0 ≤ n := by simpa using z.1
      have g2 : n < (rows.length : Nat) := by simpa using z.2
      exact hl2 _ (rk_mem (by omega))
    have h12 := dd_up h1 (s1.trans s2)
    have hns2 := hnsT B2 (s1.trans s2)
    refine q_asg (i := 3) (m := 0) (P := LoP K ((rowsAt rows ns).map (rP K))) t2 (Ev.z (n := 0) (m := 0 + ns.length * 0) ((ev_lc1 (K := K) (c := 0) (xs := ns) (fun n => rP K (rk rows n.toNat)) (es_tup (Y := fun n => dI K n) (ev_var (i := 2) rfl hns2)).s (by omega) ?turn3).to (by unfold rowsAt; rw [List.map_map] <;> rfl))) fun sv B3 H3 t3 s3 hsv => ?_
    case turn3 =>
      intro n v B4 l hn4 s4 hv
      exact ⟨_, tg_name, rfl, ev_op ((ev_fn (ea_cons (ev_var (i := 1) rfl (dd_up h12 s4)) ea_nil) ⟨d, rfl, d1, d2, d3, rfl⟩).imp fun v B' hv => tt_rows (by rw [← d4]; exact hv)) (ev_var (i := 4) rfl hv) (rv_ixT (atI_rowI (hin n hn4)))⟩
    rw [hmir] at q
    generalize rowsAt rows ns = R at q hlen2 hrl hsv
    have e2 : (R.flatMap fun r => r.1.map fun x => dB K (decide ((kindsAt x R).length = 2))) = (R.flatMap fun r => r.1.map fun x => decide ((kindsAt x R).length = 2)).map (dB K) := by
      rw [List.map_flatMap]
      congr 1
      funext b
      rw [List.map_map] <;> rfl
    refine s_ret (m := 0) (P := dB K ((R.flatMap fun r => r.1.map fun x => decide ((kindsAt x R).length = 2)).all id)) t3 (ev_cb (ea_cons (ev_lo ((ev_lc2 (K := K) (Z := fun _ => dS K) (xs := R) (fun r => r.1) (fun r x => dB K (decide ((kindsAt x R).length = 2))) (es_list (Y := rP K) (ev_var (i := 3) rfl (lo_li hsv))).s ?len ?turn4).to (congrArg (LoP K) e2))) ea_nil) rc_all) fun v B' H' a s hv => q _ v B' H' a hv
    case len =>
      refine Nat.le_trans (flatMap_le (fun r : List Str × Str => r.1.map fun x => dB K (decide ((kindsAt x R).length = 2))) 64 R fun r hr => by rw [List.length_map]; exact hrl r hr) ?_
      have z : R.length ≤ 64 := by omega
      exact Nat.le_trans (Nat.mul_le_mul_right 64 z) (by decide)
    case turn4 =>
      intro r v B4 hr s4 hv
      obtain ⟨pa, v1, v2, rfl, hT, e1, e2⟩ := two_row hv
      refine ⟨_, tg_two hT, rfl, (es_tup (Y := dS K) (ev_var (i := 6) rfl (tt_strs e1))).s, fun y u B5 hy s5 hu => ⟨_, tg_name, rfl, (ev_op (ev_cb (ea_cons ((ev_fn (ea_cons (ev_var (i := 5) rfl hu) (ea_cons (ev_lo (ev_var (i := 3) rfl (Pr.up hsv (s4.trans s5)))) ea_nil)) ⟨y, R, rfl, hlen2, rfl⟩).imp fun v B' hv => tt_strs hv) ea_nil) rc_lenT) (ev_int (K := K)) rv_eqI).to (congrArg (dB K) (by rw [List.length_map]; exact decide_eq_decide.mpr (by omega)))⟩⟩
theorem calIsRef (T : Txt K mg) (N : Nat) : Cal P w K mg base (N + 4) "is_refuting" ["labels", "answers", "thing"] (spF (GIsRef K N)) := (calIsRefF T N).cal
end
end Pk


set_option Elab.async false
set_option linter.all false
set_option maxRecDepth 100000
set_option maxHeartbeats 4000000
/-! Pk24: a dict of one's own, its keys tuples of texts. -/
namespace Pk
open PySem PySem.Spec PyProof.Rows L2 PkH
theorem u1 {k : Nat} {A : Around} (r : Room k A) : A.units + 1 < cLine := by
  have := r.units
  omega
/-- a tuple that was made here -/
def TuO (K : PySem.W.Frag) (Ps : List Pr) : Pr := ⟨fun v B => ∃ a vs, v = .ref a ∧ B a = some (.tup vs) ∧ PsAt vs Ps B, fun _ _ _ e ⟨a, vs, h1, h2, h3⟩ => ⟨a, vs, h1, e _ _ h2, psAt_same e h3⟩⟩
theorem val_at {kvs : List (List Key × V)} (h : (kvs.map (·.1)).Nodup) {i : Nat} {k : List Key} {v : V} (e : kvs[i]? = some (k, v)) : valV kvs k = some v := by
  induction kvs generalizing i with
  | nil => simp at e
  | cons p r ih =>
    have hn := List.nodup_cons.mp h
    cases i with
    | zero =>
      simp at e
      subst e
      exact valV_pos rfl
    | succ i =>
      have e2 : r[i]? = some (k, v) := by simpa using e
      have hne : ¬ p.1 = k := fun z => hn.1 (by
        show p.1 ∈ r.map (·.1)
        rw [z]
        exact List.mem_map.mpr ⟨(k, v), List.mem_of_getElem? e2, rfl⟩)
      rw [valV_neg hne]
      exact ih hn.2 e2
section
variable {w : Wd} {n m : Nat} {K : PySem.W.Frag} {B : Hp} {σ : L2.St} {f : Addr} {od : Obj} {kvs : List (List Key × V)} {ws : List Nat} {Ps : List Pr} {tx : TE} {P : Pr}
theorem rc_tupLo : RC (fun xs H Q => ∃ p ys, xs = [V.ref p] ∧ ((SqL K H p ys ∧ ∀ l, H l = none → Q (.ref l) (upd H l (.tup ys))) ∨ (SqT K H p ys ∧ Q (.ref p) H))) [LiP K Ps] (TuO K Ps) := fun w n B vs hv H c Q q => by
  cases hv with
  | cons hx t =>
    cases t
    obtain ⟨p, us, rfl, h1, h2⟩ := hx
    exact ⟨p, us, rfl, .inl ⟨sqL_same c.sub h1, Go.newO (B := B) (f := V.ref) (o := .tup us) (P := (TuO K Ps).p) (fun p hp => ⟨p, us, rfl, upd_same, psAt_same (same_new hp) h2⟩) H c Q q⟩⟩
theorem tuo_tt {v : V} (h : (TuO K Ps).p v B) : (TuP K Ps).p v B := by
  obtain ⟨a, vs, rfl, h1, h2⟩ := h
  exact ⟨a, vs, rfl, st_of h1, h2⟩
/-- [d[k] for k in d], d locked -/
theorem ev_vals {ix jx : Nat} (hσ : σ[ix]? = some (some (.ref f))) (hij : ∀ v, ((wipe σ ws).set jx (some v))[ix]? = some (some (.ref f))) (hj : ∀ v, ((wipe σ ws).set jx (some v))[jx]? = some (some v)) (hwp : ∀ v, wipe ((wipe σ ws).set jx (some v)) ws = wipe σ ws)
    (hnd : (kvs.map (·.1)).Nodup) (hp : PsAt (kvs.map (·.2)) Ps B) (hlen : kvs.length ≤ 90000) : Ev (wl w f (.frz od (.dT kvs))) n n (tLc (iKeys (tVar ix)) (gName jx) tYes (tDGet (tVar ix) (tVar jx)) ws) σ B (LoP K Ps) := fun B1 s1 H c1 Q q => by
  have hpl : Ps.length = kvs.length := by rw [← ps_len hp, List.length_map]
  refine ⟨.ref f, hσ, f, od, rfl, .inr ⟨kvs, c1.wd.2, fun D hD => ?_⟩⟩
  have hDS : ¬ (wl w f (.frz od (.dT kvs))).S D := c1.notS hD
  refine ⟨fun i k H' => k = kvs.length - i ∧ i ≤ kvs.length ∧ ∃ Bi ys, Gr (wl w f (.frz od (.dT kvs))).S B1 H Bi H' ∧ Ctx (wl w f (.frz od (.dT kvs))) n Bi H' ∧ H' D = some (.lst ys) ∧ Bi D = none ∧ PsAt ys (Ps.take i) Bi, ⟨kvs.length, by simp, Nat.zero_le _, B1, [], Gr.refl.mut hD, c1.mut (c1.sub.free hD) hDS, upd_same, c1.sub.free hD, .nil⟩, ?_⟩
  rintro i k H' ⟨rfl, hi, Bi, ys, gi, ci, hl, hb, hp'⟩
  have hfz : H' f = some (.frz od (.dT kvs)) := ci.wd.2
  by_cases hlt : i < kvs.length
  · refine .inr ⟨⟨hfz, hlt⟩, fun H'' => i + 1 ≤ kvs.length ∧ ∃ Bj zs, Gr (wl w f (.frz od (.dT kvs))).S B1 H Bj H'' ∧ Ctx (wl w f (.frz od (.dT kvs))) n Bj H'' ∧ H'' D = some (.lst zs) ∧ Bj D = none ∧ PsAt zs (Ps.take (i + 1)) Bj, fun H'' h => ⟨kvs.length - (i + 1), by omega, rfl, h⟩, fun v H3 hy => ?_⟩
    obtain ⟨rfl, kk, vv, qa, e1, rfl, hq⟩ := hy
    refine ⟨hwp _, ?_⟩
    unfold tYes
    simp only [if_true]
    obtain ⟨P, e3, e4⟩ := ps_get (psAt_same (s1.trans gi.ex) hp) (i := i) (v := vv) (by rw [List.getElem?_map, e1] <;> rfl)
    refine ⟨.ref f, hij _, .ref qa, hj _, f, vv, rfl, .inr ⟨kvs, kk, qa, .inr ⟨od, hfz⟩, rfl, hq, (val_at hnd e1).symm⟩, ys, hl, ?_, hlt, Bi, ys ++ [vv], gi.mut hD, ci.mut hb hDS, upd_same, hb, ?_⟩
    · have z := ps_len hp'
      rw [List.length_take] at z
      exact sz_lt (by omega)
    · rw [take_next e3]
      exact ps_snoc hp' e4
  · have ei : i = kvs.length := by omega
    subst ei
    rw [← hpl, List.take_length] at hp'
    exact .inl ⟨⟨hfz, Nat.le_refl _⟩, q (.ref D) (upd Bi D (.lst ys)) H' (gi.put hb hD) (ci.put hl hDS) ⟨D, ys, rfl, upd_same, psAt_same (same_new hb) hp'⟩⟩
/-- d.get(k, e), d one's own -/
theorem ev_dget2 {ix jx : Nat} {b : Addr} {k : List Key} (hi : σ[ix]? = some (some (.ref f))) (hj : σ[jx]? = some (some (.ref b))) (hb : B b = some (.tup (k.map kV))) (hx : Ev (wl w f (.dT kvs)) n m tx σ B P) (hv : ∀ v, valV kvs k = some v → P.p v B) :
    Ev (wl w f (.dT kvs)) n m (tDGet2 (tVar ix) (tVar jx) tx) σ B P := fun B1 s1 H c Q q =>
  ⟨.ref f, hi, f, rfl, .inr ⟨kvs, .inl c.wd.2⟩, .ref b, hj, hx B1 s1 H c _ fun z B2 H2 g2 c2 hz => ⟨valV kvs k, .inr ⟨kvs, k, b, .inl c2.wd.2, rfl, c2.sub _ _ (g2.ex _ _ (s1 _ _ hb)), rfl⟩, q _ B2 H2 g2 c2 (by
    cases e : valV kvs k with
    | none => exact hz
    | some v => exact P.mono v B B2 (s1.trans g2.ex) (hv v e))⟩⟩
end
section
variable {S0 : Addr → Prop} {w : Wd} {n m : Nat} {K : PySem.W.Frag} {B0 H0 B H : Hp} {D : Ends} {σ : L2.St} {te tb : TE} {tz : TS} {P Pb : Pr} {f : Addr} {kvs : List (List Key × V)}
/-- d[k] = e, d one's own -/
theorem s_dput {ix jx : Nat} {b : Addr} {k : List Key} (t : At S0 (wl w f (.dT kvs)) n B0 H0 B H) (hw : ¬ w.S f) (h0 : H0 f = none) (hi : σ[ix]? = some (some (.ref f))) (hj : σ[jx]? = some (some (.ref b))) (hb : B b = some (.tup (k.map kV))) (hl : kvs.length ≤ 90000)
    (h : Ev (wl w f (.dT kvs)) n m te σ B P) (q : ∀ v B' H', At S0 (wl w f (.dT (putK kvs k v))) m B0 H0 B' H' → Same B B' → P.p v B' → D.nx σ H') : sDPut (tVar ix) (tVar jx) te D σ H :=
  t.use (Q := fun v H1 => tVar ix σ H1 fun x H2 => tVar jx σ H2 fun y H3 => ∃ a H4, x = .ref a ∧ DPut H3 a y v H4 ∧ D.nx σ H4) (h B (Same.refl B)) fun v B1 H1 t1 s1 hv =>
    ⟨.ref f, hi, .ref b, hj, f, _, rfl, .inr ⟨kvs, k, b, t1.here, rfl, t1.c.sub _ _ (s1 _ _ hb), sz_lt (by omega), rfl⟩, q v B1 _ (t1.set hw h0) s1 hv⟩
/-- d, x = {}, e -/
theorem q_dict {i j : Nat} (t : At S0 w n B0 H0 B H) (h2 : ∀ l o, ¬ w.S l → Ev (wl w l o) n m tb σ B Pb)
    (q : ∀ f vb B' H', At S0 (wl w f (.dT [])) m B0 H0 B' H' → Same B B' → ¬ w.S f → H0 f = none → Pb.p vb B' → tz D ((σ.set i (some (.ref f))).set j (some vb)) H') :
    tSeq (tAsg (tTup (tCons tDNewT (tCons tb tNil))) (gTup K 2 (gCons (gName i) (gCons (gName j) gNil)))) tz D σ H := by
  intro f hf
  have hfS : ¬ w.S f := t.c.notS hf
  have hf0 : H0 f = none := t.not0 hf
  have t1 : At S0 (wl w f (.dT [])) n B0 H0 B (upd H f (.dT [])) := t.more hf
  refine t1.use (Q := fun vb H2 => tNil σ H2 fun us H3 => (V.ref f :: vb :: us).length ≤ sizeLine ∧ ∀ p, H3 p = none → gTup K 2 (gCons (gName i) (gCons (gName j) gNil)) (.ref p) σ (upd H3 p (.tup (V.ref f :: vb :: us))) fun σ' H' => tz D σ' H') (h2 f (.dT []) hfS B (Same.refl B)) fun vb B2 H2 t2 s2 hvb => ?_
  refine ⟨Nat.le_of_ble_eq_true rfl, fun T hT => ?_⟩
  refine go_newT (w := wl w f (.dT [])) (n := m) (K := K) (B := B2) (vs := [V.ref f, vb]) (Ps := [VV (.ref f), VV vb]) (.cons rfl (.cons rfl .nil)) _ t2.c (fun v H3 => gTup K 2 (gCons (gName i) (gCons (gName j) gNil)) v σ H3 fun σ' H' => tz D σ' H') (fun v B3 H3 g3 c3 hv3 => ?_) T hT
  obtain ⟨T2, us, rfl, hT2, hus⟩ := hv3
  obtain ⟨u1, u2, rfl, e1, e2⟩ := two_at hus
  obtain rfl := e1
  obtain rfl := e2
  exact ⟨T2, _, rfl, sqT_same c3.sub hT2, rfl, _, _, rfl, _, _, rfl, rfl, q f _ B3 H3 (t2.step g3 c3) (s2.trans g3.ex) hfS hf0 (Pr.up hvb g3.ex)⟩
/-- return e, something of one's own locked meanwhile -/
theorem s_retLock {u : HO} (t : At S0 (wl w f u) n B0 H0 B H) (hw : ¬ w.S f) (h0 : H0 f = none) (mu : Mut (some u)) (h : ∀ od, Ev (wl w f (.frz od u)) n m te σ B P) (q : ∀ v B' H', At S0 (wl w f u) m B0 H0 B' H' → Same B B' → P.p v B' → D.rt v H') : tRet (tLockE te) D σ H :=
  ⟨f, u, t.here, mu, fun od => (t.set (o' := .frz od u) hw h0).use (Q := fun v H' => H' f = some (.frz od u) ∧ D.rt v (upd H' f u)) (h od B (Same.refl B)) fun v B' H' t' s' hv => ⟨t'.here, q v B' _ (t'.set hw h0) s' hv⟩⟩
end
end Pk


set_option Elab.async false
set_option linter.all false
set_option maxRecDepth 100000
set_option maxHeartbeats 4000000
/-! PkF28: _law_all. -/
namespace Pk
open PySem PySem.Spec PyProof.Rows L2 PkH PySem.W
/-! ### all plain lines, by their signs -/
abbrev SL := List Str × List (Str × Str)
def addL (tags : List Str) (D : List SL) (l : List (Str × Str)) : List SL := if signOf tags l ∈ D.map (·.1) then D else D ++ [(signOf tags l, plainP l)]
def linesOf (tags order : List Str) : List (List (Str × Str)) := (kindsF tags.length).map fun ks => ks.zip order
def allLines (tags : List Str) : List (List (Str × Str)) := (ordersN tags.length tags).flatMap (linesOf tags)
def allD (tags : List Str) : List SL := (allLines tags).foldl (addL tags) []
def tl (p : SL) : Str × List (Str × Str) := (textOf p.2, p.2)
def everyF (tags : List Str) : List (Str × List (Str × Str)) := ((allD tags).map tl).mergeSort (dataLe false eTL)
structure DOk (tags : List Str) (D : List SL) : Prop where
  ok : ∀ p ∈ D, p.1 = signOf tags p.2 ∧ isPlain p.2 ∧ overT tags p.2
  nd : (D.map (·.1)).Nodup
theorem signOf_plain (tags : List Str) (l : List (Str × Str)) : signOf tags (plainP l) = signOf tags l := by
  unfold signOf
  exact List.map_congr_left fun lot _ => plainP_outer l lot
theorem DOk.add {tags : List Str} {D : List SL} {l : List (Str × Str)} (hn : tags.Nodup) (h : DOk tags D) (hl : overT tags l) : DOk tags (addL tags D l) := by
  unfold addL
  by_cases e : signOf tags l ∈ D.map (·.1)
  · rw [if_pos e]
    exact h
  · rw [if_neg e]
    refine ⟨fun p hp => ?_, ?_⟩
    · rcases List.mem_append.mp hp with z | z
      · exact h.ok p z
      · rw [List.mem_singleton.mp z]
        exact ⟨(signOf_plain tags l).symm, plainP_plain l, hl.plain hn⟩
    · rw [List.map_append]
      refine List.nodup_append.mpr ⟨h.nd, List.nodup_cons.mpr ⟨by simp, List.nodup_nil⟩, fun a ha b hb z => ?_⟩
      have eb : b = signOf tags l := List.mem_singleton.mp hb
      rw [z, eb] at ha
      exact e ha
theorem DOk.all {tags : List Str} (hn : tags.Nodup) : ∀ (ls : List (List (Str × Str))) (D : List SL), DOk tags D → (∀ l ∈ ls, overT tags l) → DOk tags (ls.foldl (addL tags) D)
  | [], _, h, _ => h
  | l :: ls, D, h, ho => DOk.all hn ls _ (h.add hn (ho l List.mem_cons_self)) fun k hk => ho k (List.mem_cons_of_mem _ hk)
theorem addL_sub (tags : List Str) (D : List SL) (l : List (Str × Str)) : (∀ s ∈ D.map (·.1), s ∈ (addL tags D l).map (·.1)) ∧ signOf tags l ∈ (addL tags D l).map (·.1) := by
  unfold addL
  by_cases e : signOf tags l ∈ D.map (·.1)
  · rw [if_pos e]
    exact ⟨fun s hs => hs, e⟩
  · rw [if_neg e, List.map_append]
    exact ⟨fun s hs => List.mem_append.mpr (.inl hs), List.mem_append.mpr (.inr (List.mem_singleton.mpr rfl))⟩
theorem allD_has {tags : List Str} : ∀ (ls : List (List (Str × Str))) (D : List SL), (∀ s ∈ D.map (·.1), s ∈ (ls.foldl (addL tags) D).map (·.1)) ∧ ∀ l ∈ ls, signOf tags l ∈ (ls.foldl (addL tags) D).map (·.1)
  | [], D => ⟨fun s hs => hs, fun l hl => by cases hl⟩
  | l :: ls, D => by
    obtain ⟨h1, h2⟩ := allD_has ls (addL tags D l)
    have z := addL_sub tags D l
    refine ⟨fun s hs => h1 s (z.1 s hs), fun k hk => ?_⟩
    rcases List.mem_cons.mp hk with rfl | hk
    · exact h1 _ z.2
    · exact h2 k hk
theorem allLines_over {tags : List Str} : ∀ l ∈ allLines tags, overT tags l := by
  intro l hl
  obtain ⟨o, ho, h⟩ := List.mem_flatMap.mp hl
  obtain ⟨ks, hk, rfl⟩ := List.mem_map.mp h
  exact zip_over hk ho
theorem allD_ok {tags : List Str} (hn : tags.Nodup) : DOk tags (allD tags) := DOk.all hn _ _ ⟨fun p hp => (by cases hp), List.nodup_nil⟩ allLines_over
theorem every_mem {tags : List Str} {t : Str × List (Str × Str)} : t ∈ everyF tags ↔ ∃ p ∈ allD tags, tl p = t := by
  unfold everyF
  rw [(List.mergeSort_perm _ _).mem_iff, List.mem_map]
theorem every_ok {tags : List Str} (hn : tags.Nodup) {t : Str × List (Str × Str)} (h : t ∈ everyF tags) : t.1 = textOf t.2 ∧ isPlain t.2 ∧ overT tags t.2 := by
  obtain ⟨p, hp, rfl⟩ := every_mem.mp h
  exact ⟨rfl, (allD_ok hn).ok p hp |>.2⟩
theorem every_has {tags : List Str} (hn : tags.Nodup) {l : List (Str × Str)} (hl : overT tags l) (hp : isPlain l) : (textOf l, l) ∈ everyF tags := by
  obtain ⟨ks, hk, o, ho, e⟩ := over_zip hl
  have hin : l ∈ allLines tags := List.mem_flatMap.mpr ⟨o, ho, List.mem_map.mpr ⟨ks, hk, e.symm⟩⟩
  obtain ⟨p, hp2, e2⟩ := List.mem_map.mp ((allD_has (allLines tags) []).2 l hin)
  obtain ⟨e3, h4, h5⟩ := (allD_ok hn).ok p hp2
  have e4 : p.2 = l := plain_sign hn h5 hl h4 hp (e3.symm.trans e2)
  exact every_mem.mpr ⟨p, hp2, by unfold tl; rw [e4]⟩
theorem addL_len (tags : List Str) (D : List SL) (l : List (Str × Str)) : (addL tags D l).length ≤ D.length + 1 := by
  unfold addL
  by_cases e : signOf tags l ∈ D.map (·.1)
  · rw [if_pos e]
    omega
  · rw [if_neg e, List.length_append] <;> exact Nat.le_refl _
theorem foldD_len (tags : List Str) : ∀ (ls : List (List (Str × Str))) (D : List SL), (ls.foldl (addL tags) D).length ≤ D.length + ls.length
  | [], D => Nat.le_refl _
  | l :: ls, D => by
    have a := foldD_len tags ls (addL tags D l)
    have b := addL_len tags D l
    rw [List.foldl_cons, List.length_cons]
    omega
/-! ### the dict -/
theorem inr_inj {a b : List Str} (h : a.map (Sum.inr : Str → Key) = b.map Sum.inr) : a = b := (List.map_inj_right fun x y e => Sum.inr.inj e).mp h
theorem kv_strs (xs : List Str) : (xs.map (Sum.inr : Str → Key)).map kV = xs.map V.str := by rw [List.map_map] <;> rfl
def keyOf (p : SL) : List Key := p.1.map Sum.inr
def valP (K : PySem.W.Frag) (p : SL) : Pr := DD K (eTL (tl p))
structure DInv (K : PySem.W.Frag) (D : List SL) (kvs : List (List Key × V)) (B : Hp) : Prop where
  ks : kvs.map (·.1) = D.map keyOf
  vs : PsAt (kvs.map (·.2)) (D.map (valP K)) B
section
variable {K : PySem.W.Frag} {B B' : Hp}
theorem DInv.up {D : List SL} {kvs : List (List Key × V)} (h : DInv K D kvs B) (s : Same B B') : DInv K D kvs B' := ⟨h.ks, psAt_same s h.vs⟩
theorem dinv_get : ∀ (kvs : List (List Key × V)) (D : List SL), kvs.map (·.1) = D.map keyOf → PsAt (kvs.map (·.2)) (D.map (valP K)) B → ∀ {k : List Key} {v : V}, valV kvs k = some v → ∃ p ∈ D, keyOf p = k ∧ (valP K p).p v B
  | [], _, _, _, _, _, h => by cases h
  | _ :: _, [], h, _, _, _, _ => by cases h
  | q :: kvs, p :: D, h1, h2, k, v, h => by
    have e := List.cons.inj h1
    cases h2 with
    | cons r t =>
      by_cases hk : q.1 = k
      · rw [valV_pos hk] at h
        obtain rfl := Option.some.inj h
        exact ⟨p, List.mem_cons_self, e.1.symm.trans hk, r⟩
      · rw [valV_neg hk] at h
        obtain ⟨p', hp', h'⟩ := dinv_get kvs D e.2 t h
        exact ⟨p', List.mem_cons_of_mem _ hp', h'⟩
theorem dinv_set {k : List Key} {v : V} : ∀ (kvs : List (List Key × V)) (D : List SL), kvs.map (·.1) = D.map keyOf → PsAt (kvs.map (·.2)) (D.map (valP K)) B → (∀ p ∈ D, keyOf p = k → (valP K p).p v B) →
    (kvs.map fun kv => if kv.1 = k then (kv.1, v) else kv).map (·.1) = D.map keyOf ∧ PsAt ((kvs.map fun kv => if kv.1 = k then (kv.1, v) else kv).map (·.2)) (D.map (valP K)) B
  | [], [], _, _, _ => ⟨rfl, .nil⟩
  | [], _ :: _, h, _, _ => by cases h
  | _ :: _, [], h, _, _ => by cases h
  | q :: kvs, p :: D, h1, h2, h => by
    have e := List.cons.inj h1
    cases h2 with
    | cons r t =>
      obtain ⟨a, b⟩ := dinv_set kvs D e.2 t fun p hp => h p (List.mem_cons_of_mem _ hp)
      rw [List.map_cons]
      by_cases hk : q.1 = k
      · rw [if_pos hk]
        exact ⟨by rw [List.map_cons, a, List.map_cons, ← e.1], .cons (h p List.mem_cons_self (e.1.symm.trans hk)) b⟩
      · rw [if_neg hk]
        exact ⟨by rw [List.map_cons, a, List.map_cons, ← e.1], .cons r b⟩
theorem DInv.put {tags : List Str} {D : List SL} {kvs : List (List Key × V)} {l : List (Str × Str)} {v : V} (hn : tags.Nodup) (h : DInv K D kvs B) (ok : DOk tags D) (hl : overT tags l) (hv : (valP K (signOf tags l, plainP l)).p v B) :
    DInv K (addL tags D l) (putK kvs ((signOf tags l).map Sum.inr) v) B := by
  have same : ∀ p ∈ D, keyOf p = (signOf tags l).map Sum.inr → p.2 = plainP l := fun p hp e => by
    obtain ⟨e1, e2, e3⟩ := ok.ok p hp
    exact plain_sign hn e3 (hl.plain hn) e2 (plainP_plain l) (by rw [signOf_plain, ← e1]; exact inr_inj e)
  have hany : (kvs.any fun kv => decide (kv.1 = (signOf tags l).map Sum.inr)) = decide (signOf tags l ∈ D.map (·.1)) := by
    rw [Bool.eq_iff_iff, List.any_eq_true, decide_eq_true_iff, List.mem_map]
    constructor
    · rintro ⟨kv, h1, h2⟩
      have z : kv.1 ∈ D.map keyOf := by
        rw [← h.ks]
        exact List.mem_map.mpr ⟨kv, h1, rfl⟩
      obtain ⟨p, hp, e⟩ := List.mem_map.mp z
      exact ⟨p, hp, inr_inj (e.trans (of_decide_eq_true h2))⟩
    · rintro ⟨p, hp, e⟩
      have z : keyOf p ∈ kvs.map (·.1) := by
        rw [h.ks]
        exact List.mem_map.mpr ⟨p, hp, rfl⟩
      obtain ⟨kv, h1, e2⟩ := List.mem_map.mp z
      exact ⟨kv, h1, decide_eq_true (by rw [e2, ← e] <;> rfl)⟩
  unfold putK addL
  rw [hany]
  by_cases e : signOf tags l ∈ D.map (·.1)
  · rw [if_pos (decide_eq_true e), if_pos e]
    obtain ⟨a, b⟩ := dinv_set (K := K) (B := B) (k := (signOf tags l).map Sum.inr) (v := v) kvs D h.ks h.vs fun p hp ek => by
      have z := same p hp ek
      unfold valP tl at hv ⊢
      rw [z]
      exact hv
    exact ⟨a, b⟩
  · have e2 : ¬ decide (signOf tags l ∈ D.map (·.1)) = true := by simpa using e
    simp only [if_neg e2, if_neg e]
    refine ⟨?_, ?_⟩
    · rw [List.map_append, List.map_append, h.ks] <;> rfl
    · rw [List.map_append, List.map_append]
      exact ps_snoc h.vs hv
theorem DInv.len {D : List SL} {kvs : List (List Key × V)} (h : DInv K D kvs B) : kvs.length = D.length := by
  have z := congrArg List.length h.ks
  rw [List.length_map, List.length_map] at z
  exact z
theorem tup_imp {α : Type} {F G : α → Pr} (h : ∀ x v B, (F x).p v B → (G x).p v B) : ∀ {l : List α} {vs : List V}, PsAt vs (l.map F) B → PsAt vs (l.map G) B
  | [], _, hp => by cases hp; exact .nil
  | x :: l, _, hp => by
    cases hp with
    | cons r t => exact .cons (h x _ _ r) (tup_imp h t)
theorem zip_line {ks o : List Str} {v : V} (h : (TuP K (((ks.map (dS K)).zip (o.map (dS K))).map fun p => TuP K [p.1, p.2])).p v B) : (DD K (eLine (ks.zip o))).p v B := by
  obtain ⟨a, vs, rfl, h1, h2⟩ := h
  rw [List.zip_map, List.map_map] at h2
  refine map_tt (f := eSS) (xs := ks.zip o) ⟨a, vs, rfl, h1, ?_⟩
  exact tup_imp (F := (fun p : Pr × Pr => TuP K [p.1, p.2]) ∘ Prod.map (dS K) (dS K)) (G := fun p => DD K (eSS p)) (fun p v B hv => tt_dd (ds := [.str p.1, .str p.2]) hv) h2
end
theorem subsF_map {α β : Type} (f : α → β) : ∀ (xs : List α) (F : List (List α)), (xs.map f).foldl (fun g x => g ++ g.map fun y => y ++ [x]) (F.map (List.map f)) = (xs.foldl (fun g x => g ++ g.map fun y => y ++ [x]) F).map (List.map f)
  | [], F => rfl
  | x :: xs, F => by
    rw [List.map_cons, List.foldl_cons, List.foldl_cons, ← subsF_map f xs]
    congr 1
    rw [List.map_append, List.map_map, List.map_map]
    congr 1
    refine List.map_congr_left fun y _ => ?_
    show List.map f y ++ [f x] = List.map f (y ++ [x])
    rw [List.map_append] <;> rfl
theorem subs_map {α β : Type} (f : α → β) (xs : List α) : subs (xs.map f) = (subs xs).map (List.map f) := by
  have z := subsF_map f xs [[]]
  unfold subs subsF
  rw [List.map_drop, ← z] <;> rfl
theorem ordersN_map {α β : Type} (f : α → β) : ∀ (n : Nat) (xs : List α), ordersN n (xs.map f) = (ordersN n xs).map (List.map f)
  | 0, _ => rfl
  | n + 1, xs => by
    unfold ordersN
    rw [List.length_map, List.zip_map_right, List.flatMap_map, List.map_flatMap]
    congr 1
    funext p
    show (ordersN n ((xs.map f).take p.1 ++ (xs.map f).drop (p.1 + 1))).map (fun y => f p.2 :: y) = _
    rw [← List.map_take, ← List.map_drop, ← List.map_append, ordersN_map f n, List.map_map, List.map_map]
    rfl
theorem alike_line : ∀ (l m : List (Str × Str)), alikeAll (l.map eSS) (m.map eSS) = true
  | [], _ => by simp [alikeAll]
  | _ :: _, [] => by simp [alikeAll]
  | p :: l, q :: m => by
    rw [List.map_cons, List.map_cons, alikeAll, alike_ss, alike_line l m] <;> rfl
theorem alike_tl (t u : Str × List (Str × Str)) : alike (eTL t) (eTL u) = true := by
  unfold eTL eLine
  simp [alike, alikeAll, alike_line]
theorem depth_tl (t : Str × List (Str × Str)) : (eTL t).depth ≤ 32 := by
  have a := depth_map eSS 1 t.2 fun p _ => Nat.le_of_eq (ss_depth p)
  unfold eTL eLine
  simp only [PyData.depth, PyData.depthAll]
  omega
def GOrdersLe (K : PySem.W.Frag) (n : Nat) : List Pr → Pr → Prop := fun Ps P => ∃ Qs : List Pr, Ps = [TuP K Qs] ∧ Qs.length ≤ n ∧ n ≤ 4 ∧ P = LoP K ((ordersN Qs.length Qs).map (TuP K))
section
variable {P : Program} {w : World} {K : PySem.W.Frag} {mg : Str → Option Value} {base : Heap}
theorem calOrdersLe (T : Txt K mg) : ∀ n, Cal P w K mg base (n + 1) "_law_orders" ["_law_some"] (spF (GOrdersLe K n)) := by
  intro n
  induction n with
  | zero =>
    obtain ⟨fd, F⟩ := T.f_law_orders
    have C_law_orders : Cal P w K mg base 0 "_law_orders" ["_law_some"] (fun _ _ _ _ => False) := ⟨_, fd, ⟨fun _ _ _ _ h => h.elim, fun _ _ _ _ _ _ _ _ _ _ _ _ _ h => h.elim⟩, T.g_law_orders, F.kp, F.bindsN fun _ _ _ _ _ _ us hl => match us, hl with | [_], _ => rfl⟩
    refine cal_of (k := 0) F T.g_law_orders scOrders (fun Ps P ⟨_, e, _⟩ => by rw [e] <;> rfl) (fun _ _ _ _ _ _ us hl => match us, hl with | [_], _ => rfl) fun cdv A o s H E hr => ?_
    refine ⟨_, (pss_cons (ps_if (pt_cmpR op_eq (pe_callB (kc_len (K := K) rfl) (by rfl) T.m_len PySem.boot_len (pa_cons (pv 0) pa_nil)) pe_int (nomark _)) (pss_one (ps_ret (pe_lst (pa_cons (pe_tup pa_nil) pa_nil)))) pss_nil)
    (pss_cons (ps_set (i := 1) scOrders.nd rfl (by first | exact Or.inl rfl | exact Or.inr rfl) (pe_lst pa_nil))
    (pss_cons (ps_for (passes_of rfl) rfl (kp_enumT (K := K) rfl (pi_enumT (by rfl) T.m_enumerate (pa_cons (pv 0) pa_nil))) (kg_tup (K := K) (n := 2) rfl rfl (pgs_cons (pg_name (i := 2) scOrders.nd rfl (by first | exact Or.inl rfl | exact Or.inr rfl)) (pgs_cons (pg_name (i := 3) scOrders.nd rfl (by first | exact Or.inl rfl | exact Or.inr rfl)) pgs_nil))) (pss_one (ps_set (i := 1) scOrders.nd rfl (by first | exact Or.inl rfl | exact Or.inr rfl) (pe_op op_cat (pv 1) (pe_lc (own := [("_law_far", 4)]) (by rfl) scOrders.nd (kp_list (K := K) rfl (pe_cal C_law_orders hr (pa_cons (pe_op (ko_catT (K := K) rfl) (pe_slice (ks_tup (K := K) rfl) (pv 0) po_none (po_some (pv 2))) (pe_slice (ks_tup (K := K) rfl) (pv 0) (po_some (pe_op op_add (pv 2) pe_int)) po_none)) pa_nil))) (blkOk_by (by kernel_rfl)) (fun _ _ _ _ _ => (pg_name (i := 4) scOrders.nd rfl (by first | exact Or.inl rfl | exact Or.inr rfl))) (fun _ _ _ _ _ => pts_nil) (fun _ _ _ _ _ => (pe_op (ko_catT (K := K) rfl) (pe_tup (pa_cons (pv 3) pa_nil)) (pv 4))))))))
    (pss_one (ps_ret (pv 1)))))), ?_⟩
    intro H B vs Ps P0 hs hp ⟨Qs, hP, hl, h4, hP0⟩ D q
    subst hP hP0
    obtain ⟨v, rfl, h0⟩ := one_of hp
    exact ord_body (n := Qs.length) hs h0 rfl (by omega) (fun B1 te σ Rs k h _ => absurd h (by omega)) q
  | succ n ih =>
    obtain ⟨fd, F⟩ := T.f_law_orders
    have C_law_orders := ih
    refine cal_of (k := n + 1) F T.g_law_orders scOrders (fun Ps P ⟨_, e, _⟩ => by rw [e] <;> rfl) (fun _ _ _ _ _ _ us hl => match us, hl with | [_], _ => rfl) fun cdv A o s H E hr => ?_
    refine ⟨_, (pss_cons (ps_if (pt_cmpR op_eq (pe_callB (kc_len (K := K) rfl) (by rfl) T.m_len PySem.boot_len (pa_cons (pv 0) pa_nil)) pe_int (nomark _)) (pss_one (ps_ret (pe_lst (pa_cons (pe_tup pa_nil) pa_nil)))) pss_nil)
    (pss_cons (ps_set (i := 1) scOrders.nd rfl (by first | exact Or.inl rfl | exact Or.inr rfl) (pe_lst pa_nil))
    (pss_cons (ps_for (passes_of rfl) rfl (kp_enumT (K := K) rfl (pi_enumT (by rfl) T.m_enumerate (pa_cons (pv 0) pa_nil))) (kg_tup (K := K) (n := 2) rfl rfl (pgs_cons (pg_name (i := 2) scOrders.nd rfl (by first | exact Or.inl rfl | exact Or.inr rfl)) (pgs_cons (pg_name (i := 3) scOrders.nd rfl (by first | exact Or.inl rfl | exact Or.inr rfl)) pgs_nil))) (pss_one (ps_set (i := 1) scOrders.nd rfl (by first | exact Or.inl rfl | exact Or.inr rfl) (pe_op op_cat (pv 1) (pe_lc (own := [("_law_far", 4)]) (by rfl) scOrders.nd (kp_list (K := K) rfl (pe_cal C_law_orders hr (pa_cons (pe_op (ko_catT (K := K) rfl) (pe_slice (ks_tup (K := K) rfl) (pv 0) po_none (po_some (pv 2))) (pe_slice (ks_tup (K := K) rfl) (pv 0) (po_some (pe_op op_add (pv 2) pe_int)) po_none)) pa_nil))) (blkOk_by (by kernel_rfl)) (fun _ _ _ _ _ => (pg_name (i := 4) scOrders.nd rfl (by first | exact Or.inl rfl | exact Or.inr rfl))) (fun _ _ _ _ _ => pts_nil) (fun _ _ _ _ _ => (pe_op (ko_catT (K := K) rfl) (pe_tup (pa_cons (pv 3) pa_nil)) (pv 4))))))))
    (pss_one (ps_ret (pv 1)))))), ?_⟩
    intro H B vs Ps P0 hs hp ⟨Qs, hP, hl, h4, hP0⟩ D q
    subst hP hP0
    obtain ⟨v, rfl, h0⟩ := one_of hp
    exact ord_body (n := Qs.length) hs h0 rfl (by omega) (fun B1 te σ Rs k h e => ev_fn (ea_cons e ea_nil) ⟨Rs, rfl, by omega, by omega, rfl⟩) q
end
def GAll (K : PySem.W.Frag) : List Pr → Pr → Prop := fun Ps P => ∃ tags : List Str, Ps = [TuP K (tags.map (dS K))] ∧ tags.Nodup ∧ tags.length ≤ 3 ∧ (∀ x ∈ tags, okS x) ∧ P = LoP K ((everyF tags).map fun t => DD K (eTL t))
theorem scAll : FnScope ["_law_tags_here", "_law_order_so", "_law_found", "_law_lots_so", "_law_kinds_so", "_law_line_so", "_law_sign_so", "_law_own"] ["_law_tags_here"] (defScope (top 65)) := ⟨rfl, rfl, rfl, by decide +kernel, rfl, by decide +kernel, by decide +kernel⟩
section
variable {P : Program} {w : World} {K : PySem.W.Frag} {mg : Str → Option Value} {base : Heap}
theorem calAll (T : Txt K mg) : Cal P w K mg base 5 "_law_all" ["_law_tags_here"] (spF (GAll K)) := by
  obtain ⟨fd, F⟩ := T.f_law_all
  have C_law_sets := (calSets (P := P) (w := w) (base := base) T).mono (k := 4) (by omega)
  have C_law_kinds := (calKindsL (P := P) (w := w) (base := base) T).mono (k := 4) (by omega)
  have C_law_plain := (calLPlain (P := P) (w := w) (base := base) T).mono (k := 4) (by omega)
  have C_law_outer := (calOuter (P := P) (w := w) (base := base) T).mono (k := 4) (by omega)
  have C_law_text := (calText (P := P) (w := w) (base := base) T).mono (k := 4) (by omega)
  have C_law_orders := (calOrdersLe (P := P) (w := w) (base := base) T 3)
  refine cal_of (k := 4) F T.g_law_all scAll (fun Ps P ⟨_, e, _⟩ => by rw [e] <;> rfl) (fun _ _ _ _ _ _ us hl => match us, hl with | [_], _ => rfl) fun cdv A o s H E hr => ?_
  refine ⟨_, (pss_cons (ps_asg (pe_tup (pa_cons pe_dnewT (pa_cons (pe_cal C_law_sets hr (pa_cons (pv 0) pa_nil)) pa_nil))) (kg_tup (K := K) (n := 2) rfl rfl (pgs_cons (pg_name (i := 2) scAll.nd rfl (by first | exact Or.inl rfl | exact Or.inr rfl)) (pgs_cons (pg_name (i := 3) scAll.nd rfl (by first | exact Or.inl rfl | exact Or.inr rfl)) pgs_nil))))
    (pss_cons (ps_for (passes_of rfl) rfl (kp_list (K := K) rfl (pe_cal C_law_orders hr (pa_cons (pe_callTy (kc_tup (K := K) rfl) (by rfl) T.m_tuple (by decide +kernel) (pa_cons (pv 0) pa_nil)) pa_nil))) (pg_name (i := 1) scAll.nd rfl (by first | exact Or.inl rfl | exact Or.inr rfl)) (pss_one (ps_for (passes_of rfl) rfl (kp_list (K := K) rfl (pe_cal C_law_kinds hr (pa_cons (pe_callB (kc_len (K := K) rfl) (by rfl) T.m_len PySem.boot_len (pa_cons (pv 0) pa_nil)) pa_nil))) (pg_name (i := 4) scAll.nd rfl (by first | exact Or.inl rfl | exact Or.inr rfl)) (pss_cons (ps_set (i := 5) scAll.nd rfl (by first | exact Or.inl rfl | exact Or.inr rfl) (pe_cal C_law_plain hr (pa_cons (pe_tupZip rfl (by rfl) T.m_tuple (by rfl) T.m_zip (pa_cons (pv 4) (pa_cons (pv 1) pa_nil))) pa_nil)))
    (pss_cons (ps_set (i := 6) scAll.nd rfl (by first | exact Or.inl rfl | exact Or.inr rfl) (pe_callTy (kc_tup (K := K) rfl) (by rfl) T.m_tuple (by decide +kernel) (pa_cons (pe_lc (own := [("_law_own", 7)]) (by rfl) scAll.nd (kp_list (K := K) rfl (pv 3)) (blkOk_by (by kernel_rfl)) (fun _ _ _ _ _ => (pg_name (i := 7) scAll.nd rfl (by first | exact Or.inl rfl | exact Or.inr rfl))) (fun _ _ _ _ _ => pts_nil) (fun _ _ _ _ _ => (pe_cal C_law_outer hr (pa_cons (pv 5) (pa_cons (pv 7) pa_nil))))) pa_nil)))
    (pss_one (ps_dput (u1 hr) (pv 2) (pv 6) (pe_callB (kc_minD (K := K) rfl rfl hr.units) (by rfl) T.m_min (by decide +kernel) (pa_cons (pe_dget2 (u1 hr) (pv 2) (pv 6) (pe_tup (pa_cons (pe_cal C_law_text hr (pa_cons (pv 5) pa_nil)) (pa_cons (pv 5) pa_nil))) ⟨rfl, rfl, rfl, rfl⟩) (pa_cons (pe_tup (pa_cons (pe_cal C_law_text hr (pa_cons (pv 5) pa_nil)) (pa_cons (pv 5) pa_nil))) pa_nil))) rfl)))))))
    (pss_one (ps_ret (pe_lock (pe_callB (kc_sortD (K := K) rfl hr.units) (by rfl) T.m_sorted (by decide +kernel) (pa_cons (pe_lc (own := [("_law_own", 7)]) (by rfl) scAll.nd (pi_keys (pv 2)) (blkOk_by (by kernel_rfl)) (fun _ _ _ _ _ => (pg_name (i := 7) scAll.nd rfl (by first | exact Or.inl rfl | exact Or.inr rfl))) (fun _ _ _ _ _ => pts_nil) (fun _ _ _ _ _ => (pe_dget (u1 hr) (pv 2) (pv 7) (fun _ _ => rfl)))) pa_nil))))))), ?_⟩
  intro H B vs Ps P0 hs hp ⟨tags, hP, hn, hl3, hok, hP0⟩ D q
  subst hP hP0
  obtain ⟨tv, rfl, h0⟩ := one_of hp
  have fr : ∀ f o, Free (wl w0 f o) := fun f o => free_wl free_w0
  have hno : (ordersN tags.length tags).length ≤ 6 := by
    refine Nat.le_trans (ordersN_len _ tags rfl) ?_
    have e : tags.length = 0 ∨ tags.length = 1 ∨ tags.length = 2 ∨ tags.length = 3 := by omega
    rcases e with e | e | e | e <;> rw [e] <;> decide
  have hnk : (kindsF tags.length).length ≤ 8 := by
    rw [kindsF_len]
    have e : tags.length = 0 ∨ tags.length = 1 ∨ tags.length = 2 ∨ tags.length = 3 := by omega
    rcases e with e | e | e | e <;> rw [e] <;> decide
  have hsl : (subs tags).length ≤ 8 := by
    unfold subs subsF
    rw [List.length_drop, subsF_len]
    have e : tags.length = 0 ∨ tags.length = 1 ∨ tags.length = 2 ∨ tags.length = 3 := by omega
    rcases e with e | e | e | e <;> rw [e] <;> decide
  refine q_dict (K := K) (m := 0) (i := 2) (j := 3) (Pb := LoP K ((subs tags).map fun lot => TuP K (lot.map (dS K)))) (at0 hs) (fun l o hl => (ev_fn (ea_cons (ev_var (i := 0) rfl h0) ea_nil) ⟨tags.map (dS K), rfl, by rw [List.length_map]; omega, rfl⟩).to (congrArg (LoP K) (by rw [subs_map, List.map_map] <;> rfl))) fun f sv B1 H1 t1 s1 hfS hf0 hsv => ?_
  have h01 := Pr.up h0 s1
  refine q_for (m := 0) (xs := ordersN tags.length tags) (Y := fun o => TuP K (o.map (dS K))) (fun i Bs u k σ B1 => ∃ kvs x1 x4 x5 x6, u = wl w0 f (.dT kvs) ∧ k = 0 ∧ σ = [some tv, x1, some (.ref f), some sv, x4, x5, x6, none] ∧ DInv K ((((ordersN tags.length tags).take i).flatMap (linesOf tags)).foldl (addL tags) []) kvs B1) t1 (es_list (K := K) ((ev_lo (ev_fn (ea_cons (ev_cb (ea_cons (ev_var (i := 0) rfl h01) ea_nil) rc_tupT) ea_nil) ⟨tags.map (dS K), rfl, by rw [List.length_map]; exact hl3, by omega, rfl⟩)).to (congrArg (LiP K) (by rw [List.length_map, ordersN_map, List.map_map] <;> rfl)))) (fun B2 s2 => ⟨[], _, _, _, _, rfl, rfl, rfl, rfl, .nil⟩) ?turn ?done
  case turn =>
    rintro i o ov Bs u k σ' B2 B3 H3 ei s2 s3 ⟨kvs, x1, x4, x5, x6, rfl, rfl, rfl, hD⟩ t3 s4 hov
    have hoin := List.mem_of_getElem? ei
    have hop := (ordersN_perm _ tags rfl o).mp hoin
    have s13 := (s2.trans s3).trans s4
    have h03 := Pr.up h01 s13
    show tFor _ _ _ _ _ H3
    obtain ⟨D0, hD0⟩ : ∃ D0, D0 = ((((ordersN tags.length tags).take i).flatMap (linesOf tags)).foldl (addL tags) []) := ⟨_, rfl⟩
    rw [← hD0] at hD
    have hD0ok : DOk tags D0 := by
      rw [hD0]
      refine DOk.all hn _ _ ⟨fun p hp => (by cases hp), List.nodup_nil⟩ fun l hl => ?_
      obtain ⟨o', ho', h'⟩ := List.mem_flatMap.mp hl
      obtain ⟨ks, hk, rfl⟩ := List.mem_map.mp h'
      exact zip_over hk (List.mem_of_mem_take ho')
    have hD0len : D0.length ≤ 48 := by
      rw [hD0]
      refine Nat.le_trans (foldD_len tags _ _) ?_
      have z := flatMap_le (linesOf tags) 8 ((ordersN tags.length tags).take i) fun o' _ => by
        unfold linesOf
        rw [List.length_map]
        exact hnk
      rw [List.length_take] at z
      have y : min i (ordersN tags.length tags).length * 8 ≤ 48 := by
        have x : min i (ordersN tags.length tags).length ≤ 6 := by omega
        omega
      rw [List.length_nil]
      omega
    refine s_for (m := 0) (xs := kindsF tags.length) (Y := ksP K) (fun j Bs u k σ B1 => ∃ kvs x4 x5 x6, u = wl w0 f (.dT kvs) ∧ k = 0 ∧ σ = [some tv, some ov, some (.ref f), some sv, x4, x5, x6, none] ∧ DInv K (((((kindsF tags.length).take j).map fun ks => ks.zip o)).foldl (addL tags) D0) kvs B1) t3 (es_list (K := K) (ev_lo (ev_fn (ea_cons ((ev_cb (ea_cons (ev_var (i := 0) rfl h03) ea_nil) rc_lenT).to (P' := dI K (tags.length : Nat)) (by rw [List.length_map])) ea_nil) ⟨tags.length, rfl, by omega, rfl⟩))) (fun B4 s5 => ⟨kvs, _, _, _, rfl, rfl, rfl, hD.up (s4.trans s5)⟩) ?turn2 ?done2
    case turn2 =>
      rintro j ks kv Bs2 u k σ2 B4 B5 H5 ej s5 s6 ⟨kvs2, y4, y5, y6, rfl, rfl, rfl, hD2⟩ t5 s7 hkv
      have hkin := List.mem_of_getElem? ej
      have hover : overT tags (ks.zip o) := zip_over hkin hoin
      have hov5 : (TuP K (o.map (dS K))).p ov B5 := Pr.up hov ((s5.trans s6).trans s7)
      have hsv5 := Pr.up hsv (((s13.trans s5).trans s6).trans s7)
      have hzl : (ks.zip o).length ≤ 3 := by
        have z := hover.2.length_eq
        rw [List.length_map] at z
        omega
      have hokz : ∀ p ∈ ks.zip o, okP p := fun p hp => ⟨hover.1 p hp, hok p.2 (hover.2.mem_iff.mp (List.mem_map.mpr ⟨p, hp, rfl⟩))⟩
      have hpl : (plainP (ks.zip o)).length ≤ 3 := by
        have z := (hover.plain hn).2.length_eq
        rw [List.length_map] at z
        omega
      have hokL : ∀ p ∈ plainP (ks.zip o), okP p := fun p hp => hokz p ((plainP_mem _ p).mp hp)
      have hnz : ((ks.zip o).map (·.2)).Nodup := hover.2.nodup_iff.mpr hn
      refine q_asg (i := 5) (m := 0) (P := DD K (eLine (plainP (ks.zip o)))) t5 ((ev_fn (ea_cons ((ev_tupZipT (ea_cons (ev_var (i := 4) rfl hkv) (ea_cons (ev_var (i := 1) rfl hov5) ea_nil)) (by rw [List.length_map]; have z := (kindsF_mem _ _).mp hkin; omega)).imp fun v B' hv => zip_line hv) ea_nil) ⟨ks.zip o, rfl, by omega, hokz, rfl⟩).to (P' := DD K (eLine (plainP (ks.zip o)))) (by rw [lawPlain_eq hnz])) fun lv B6 H6 t6 s8 hlv => ?_
      generalize hL : plainP (ks.zip o) = L at *
      have hLo : overT tags L := by
        rw [← hL]
        exact hover.plain hn
      have hLt : (L.map (·.2)).Perm tags := hLo.2
      have hsg : signOf tags L = signOf tags (ks.zip o) := by
        rw [← hL]
        exact signOf_plain tags _
      refine q_asg (i := 6) (m := 0) (P := TuO K ((signOf tags L).map (dS K))) t6 (ev_cb (ea_cons (ev_lo ((Ev.f (n := 0) (m := 0 + (subs tags).length * 0) (fr _ _) (ev_lc1 (K := K) (c := 0) (xs := subs tags) (fun lot => dS K (outer L lot)) (es_list (Y := fun lot => TuP K (lot.map (dS K))) (ev_lo (ev_var (i := 3) rfl (Pr.up hsv5 s8)))).s (by omega) fun lot v B7 l hlot s9 hv => ⟨_, tg_name, rfl, ev_fn (ea_cons (ev_var (i := 5) rfl (Pr.up hlv s9)) (ea_cons (ev_var (i := 7) rfl (map_tt (f := PyData.str) hv)) ea_nil)) ⟨L, lot, rfl, ?mem, by omega, rfl⟩⟩)).to (P' := LoP K ((signOf tags L).map (dS K))) (by unfold signOf; rw [List.map_map] <;> rfl))) ea_nil) rc_tupLo) fun gv B7 H7 t7 s9 hgv => ?_
      case mem =>
        obtain ⟨x, hx⟩ : ∃ x, x ∈ lot := by
          cases e : lot with
          | nil => exact absurd e (subs_ne hlot)
          | cons x r => exact ⟨x, List.mem_cons_self⟩
        obtain ⟨p, hp, e⟩ := List.mem_map.mp (hLt.mem_iff.mpr ((subs_sub hlot).subset hx))
        exact ⟨p, hp, by rw [show p.2 = x from e]; exact hx⟩
      obtain ⟨ga, gs, rfl, hga, hgs⟩ := hgv
      obtain rfl := strs_of hgs
      have hD7 := hD2.up ((s7.trans s8).trans s9)
      have hlv7 := Pr.up hlv s9
      have hDok2 : DOk tags (((((kindsF tags.length).take j).map fun ks => ks.zip o)).foldl (addL tags) D0) := DOk.all hn _ _ hD0ok fun l hl => by
        obtain ⟨ks', hk', rfl⟩ := List.mem_map.mp hl
        exact zip_over (List.mem_of_mem_take hk') hoin
      have hown : ∀ {w : Wd} {n : Nat} {B' : Hp} {σ : L2.St}, σ[5]? = some (some lv) → Same B7 B' → Ev w n n (tTup (tCons (tCall (spF (GText K)) [] E0 (tCons (tVar 5) tNil)) (tCons (tVar 5) tNil))) σ B' (DD K (eTL (textOf L, L))) := fun e s => (ev_tup (K := K) (ea_cons (ev_fn (ea_cons (ev_var e (dd_up hlv7 s)) ea_nil) ⟨L, rfl, by omega, fun p hp => ⟨(by
        rcases (hokL p hp).1 with e | e <;> rw [e] <;> decide +kernel), (hokL p hp).2.1⟩, rfl⟩) (ea_cons (ev_var e (dd_up hlv7 s)) ea_nil))).imp fun v B' hv => tt_dd (ds := [.str (textOf L), eLine L]) hv
      have hkl : kvs2.length ≤ 90000 := by
        rw [hD2.len]
        have z := foldD_len tags ((((kindsF tags.length).take j).map fun ks => ks.zip o)) D0
        rw [List.length_map, List.length_take] at z
        omega
      refine s_dput (ix := 2) (jx := 6) (k := (signOf tags L).map Sum.inr) (m := 0) (P := DD K (eTL (textOf L, L))) t7 (fun z => z) hf0 rfl rfl (by rw [hga, kv_strs]) hkl ((ev_cb (ea_cons (ev_dget2 (ix := 2) (jx := 6) (k := (signOf tags L).map Sum.inr) rfl rfl (by rw [hga, kv_strs]) (hown rfl (Same.refl B7)) fun v hv => ?old) (ea_cons (hown rfl (Same.refl B7)) ea_nil)) (rc_minD (alike_tl _ _) (alike_tl _ _) (alike_tl _ _) (alike_tl _ _) (by simp [eTL]) (by simp [eTL]) (depth_tl _) (depth_tl _))).to (by simp)) fun v B8 H8 t8 s10 hv => ?_
      case old =>
        obtain ⟨p, hp, ek, hpv⟩ := dinv_get (K := K) (B := B7) kvs2 _ hD7.ks hD7.vs hv
        obtain ⟨e1, e2, e3⟩ := hDok2.ok p hp
        have e4 : p.2 = L := plain_sign hn e3 hLo e2 (by rw [← hL]; exact plainP_plain _) (by rw [← e1]; exact inr_inj ek)
        unfold valP tl at hpv
        rw [e4] at hpv
        exact hpv
      refine ⟨_, _, B8, t8, ((s6.trans s7).trans s8).trans (s9.trans s10), _, _, _, _, rfl, rfl, rfl, ?_⟩
      rw [take_next ej, List.map_append, List.foldl_append, hsg]
      refine (hD7.up s10).put hn hDok2 hover ?_
      unfold valP tl
      rw [hL]
      exact hv
    case done2 =>
      rintro Bs2 u k σ2 B4 H4 s5 s6 t4 ⟨kvs2, y4, y5, y6, rfl, rfl, rfl, hD2⟩
      rw [List.take_length] at hD2
      refine ⟨_, _, B4, t4, ((s3.trans s4).trans s5).trans s6, kvs2, _, _, _, _, rfl, rfl, rfl, ?_⟩
      rw [take_next ei, List.flatMap_append, List.foldl_append, ← hD0, List.flatMap_singleton]
      exact hD2
  case done =>
    rintro Bs u k σ' B2 H2 s2 s3 t2 ⟨kvs, x1, x4, x5, x6, rfl, rfl, rfl, hD⟩
    rw [List.take_length] at hD
    have hD : DInv K (allD tags) kvs B2 := hD
    have hAok := allD_ok hn
    have hAlen : (allD tags).length ≤ 48 := by
      refine Nat.le_trans (foldD_len tags (allLines tags) []) ?_
      have z := flatMap_le (linesOf tags) 8 (ordersN tags.length tags) fun o' _ => by
        unfold linesOf
        rw [List.length_map]
        exact hnk
      unfold allLines
      rw [List.length_nil]
      omega
    have hds : (allD tags).map (valP K) = ((allD tags).map fun p => eTL (tl p)).map (DD K) := by rw [List.map_map] <;> rfl
    have hnd : (kvs.map (·.1)).Nodup := by
      rw [hD.ks]
      have z := hAok.nd
      have e : (allD tags).map keyOf = ((allD tags).map (·.1)).map fun s => s.map (Sum.inr : Str → Key) := by rw [List.map_map] <;> rfl
      rw [e]
      exact List.pairwise_map.mpr (z.imp fun hne h => hne (inr_inj h))
    refine s_retLock (m := 0) (P := LoP K ((everyF tags).map fun t => DD K (eTL t))) t2 (fun z => z) hf0 True.intro (fun od => (ev_cb (ea_cons (ev_lo ((ev_vals (K := K) (ws := [7]) (ix := 2) (jx := 7) (Ps := (allD tags).map (valP K)) rfl (fun _ => rfl) (fun _ => rfl) (fun _ => rfl) hnd hD.vs (by rw [hD.len]; omega)).to (congrArg (LoP K) hds))) ea_nil) (rc_sortD ?al ?so ?de ?le)).to (congrArg (LoP K) ?eq)) fun v B' H' a s hv => q _ v B' H' a.drop hv
    case al =>
      intro d hd e he
      obtain ⟨p, _, rfl⟩ := List.mem_map.mp hd
      obtain ⟨r, _, rfl⟩ := List.mem_map.mp he
      exact alike_tl _ _
    case so =>
      exact .inl fun d hd => by
        obtain ⟨p, _, rfl⟩ := List.mem_map.mp hd
        exact ⟨_, _, rfl⟩
    case de =>
      intro d hd
      obtain ⟨p, _, rfl⟩ := List.mem_map.mp hd
      exact depth_tl _
    case le =>
      rw [List.length_map]
      omega
    case eq =>
      have z := sort_maps (r := dataLe false eTL) (s := dataLe false id) eTL (l := (allD tags).map tl) fun a _ b _ => rfl
      unfold everyF
      rw [List.map_map] at z
      have z2 : (((allD tags).map tl).mergeSort (dataLe false eTL)).map (fun t => DD K (eTL t)) = ((((allD tags).map tl).mergeSort (dataLe false eTL)).map eTL).map (DD K) := by rw [List.map_map] <;> rfl
      rw [z2, z]
      rfl
end
end Pk


set_option Elab.async false
set_option linter.all false
set_option maxRecDepth 100000
set_option maxHeartbeats 4000000
/-! PkN: what is closed; a case is right: the mathematics. -/
namespace Pk
open PySem PySem.Spec PyProof.Rows L2 PkH PySem.W
theorem setOf_glen (xs : List Str) : (setOf xs).length = (gath xs).length := (sortS_perm (gath xs)).length_eq
theorem two_kinds {xs : List Str} (h : ∀ k ∈ xs, isK k) : (setOf xs).length ≤ 2 := by
  have hn := setOf_nodup xs
  have hm : ∀ k ∈ setOf xs, isK k := fun k hk => h k ((setOf_mem xs k).mp hk)
  match q : setOf xs with
  | [] => exact Nat.zero_le _
  | [_] => exact Nat.le_succ _
  | [_, _] => exact Nat.le_refl _
  | a :: b :: c :: r =>
    rw [q] at hn hm
    obtain ⟨n1, n2⟩ := List.nodup_cons.mp hn
    obtain ⟨n3, n4⟩ := List.nodup_cons.mp n2
    have ha := hm a List.mem_cons_self
    have hb := hm b (List.mem_cons_of_mem _ List.mem_cons_self)
    have hc := hm c (List.mem_cons_of_mem _ (List.mem_cons_of_mem _ List.mem_cons_self))
    have e1 : a ≠ b := fun e => n1 (by rw [e]; exact List.mem_cons_self)
    have e2 : a ≠ c := fun e => n1 (by rw [e]; exact List.mem_cons_of_mem _ List.mem_cons_self)
    have e3 : b ≠ c := fun e => n3 (by rw [e]; exact List.mem_cons_self)
    rcases ha with ha | ha <;> rcases hb with hb | hb <;> rcases hc with hc | hc <;> first | exact absurd (ha.trans hb.symm) e1 | exact absurd (ha.trans hc.symm) e2 | exact absurd (hb.trans hc.symm) e3
theorem rows_in {rows : List Rw} {ns : List Int} (h : ∀ n ∈ ns, inR rows n = true) : ∀ w ∈ rowsAt rows ns, w ∈ rows := by
  intro w hw
  obtain ⟨n, hn, rfl⟩ := List.mem_map.mp hw
  have z := h n hn
  unfold inR at z
  rw [Bool.and_eq_true] at z
  have g1 : 0 ≤ n := by simpa using z.1
  have g2 : n < (rows.length : Nat) := by simpa using z.2
  exact rk_mem (by omega)
theorem getD_at {ns : List Int} {k : Nat} (h : k < ns.length) : ns.getD k 0 = ns[k] := by
  rw [List.getD_eq_getElem?_getD, List.getElem?_eq_getElem h] <;> rfl
theorem downs_up (ns : List Int) : (downs ns).isEmpty = decide (ns.Pairwise (· < ·)) := by
  rw [Bool.eq_iff_iff, List.isEmpty_iff, decide_eq_true_iff]
  unfold downs
  rw [List.filter_eq_nil_iff]
  constructor
  · intro h
    have adj : ∀ k (hk : k + 1 < ns.length), ns[k] < ns[k + 1] := fun k hk => by
      have z := h k (List.mem_range.mpr (by omega))
      rw [getD_at hk, getD_at (by omega)] at z
      simp at z
      omega
    have far : ∀ (d k : Nat) (hk : k + d + 1 < ns.length), ns[k] < ns[k + d + 1] := fun d => by
      induction d with
      | zero => exact fun k hk => adj k hk
      | succ d ih =>
        intro k hk
        have a := ih k (by omega)
        have b := adj (k + d + 1) (by omega)
        have e : ns[k + (d + 1) + 1] = ns[k + d + 1 + 1] := rfl
        omega
    rw [List.pairwise_iff_getElem]
    intro i j hi hj hij
    have z := far (j - i - 1) i (by omega)
    have e : i + (j - i - 1) + 1 = j := by omega
    simp only [e] at z
    exact z
  · intro h k hk
    rw [List.mem_range] at hk
    rw [List.pairwise_iff_getElem] at h
    have z := h k (k + 1) (by omega) (by omega) (by omega)
    rw [getD_at (by omega : k + 1 < ns.length), getD_at (by omega : k < ns.length)]
    simp
    omega
theorem near_all (R : List Rw) (p : Str → Bool) : (R.flatMap fun r => r.1.map p).all id = (nearOf R).all p := by
  unfold nearOf
  induction R with
  | nil => rfl
  | cons r R ih =>
    rw [List.flatMap_cons, List.flatMap_cons, List.all_append, List.all_append, ih, List.all_map] <;> rfl
/-- the program's look at a closed set is the law's -/
theorem isRef_closed {rows : List Rw} (hK : ∀ r ∈ rows, isK r.2) (ns : List Int) : isRefF rows ns = closedF rows ns := by
  cases ns with
  | nil => rfl
  | cons x r =>
    by_cases hup : (x :: r).Pairwise (· < ·)
    · by_cases hin : ∀ n ∈ x :: r, inR rows n = true
      · have hall : (x :: r).all (inR rows) = true := List.all_eq_true.mpr hin
        have hx := hin x List.mem_cons_self
        have hlast : (x :: r).getLastD 0 ∈ x :: r := by
          rw [List.getLastD_eq_getLast?, List.getLast?_eq_some_getLast (List.cons_ne_nil x r)]
          exact List.getLast_mem _
        have hl := hin _ hlast
        have h0 : decide (0 ≤ (x :: r).headD 0) = true := by
          unfold inR at hx
          rw [Bool.and_eq_true] at hx
          exact hx.1
        have h1 : decide ((x :: r).getLastD 0 < ((rows.length : Nat) : Int)) = true := by
          unfold inR at hl
          rw [Bool.and_eq_true] at hl
          exact hl.2
        unfold isRefF closedF
        rw [hall, downs_up, decide_eq_true hup, h0, h1, near_all]
        congr 3
        have hKR : ∀ w ∈ rowsAt rows (x :: r), isK w.2 := fun w hw => hK w (rows_in hin w hw)
        generalize rowsAt rows (x :: r) = R at hKR
        simp only [Bool.true_and]
        congr 1
        funext t
        have hk2 := two_kinds (xs := kindsOf R t) fun k hk => by
          obtain ⟨w, hw, rfl⟩ := List.mem_map.mp hk
          exact hKR w (List.mem_filter.mp hw).1
        have e : kindsAt t R = setOf (kindsOf R t) := rfl
        rw [e, ← setOf_glen, Bool.eq_iff_iff, decide_eq_true_iff, Bool.not_eq_true', decide_eq_false_iff_not]
        omega
      · have hall : (x :: r).all (inR rows) = false := by
          cases q : (x :: r).all (inR rows) with
          | false => rfl
          | true => exact absurd (List.all_eq_true.mp q) hin
        have e : closedF rows (x :: r) = false := by
          unfold closedF
          rw [hall] <;> simp
        rw [e]
        cases q : isRefF rows (x :: r) with
        | false => rfl
        | true =>
          unfold isRefF at q
          simp only [Bool.and_eq_true, decide_eq_true_iff] at q
          exact absurd (up_in hup q.2.2.1 q.2.2.2.1) hin
    · have e1 : isRefF rows (x :: r) = false := by
        unfold isRefF
        rw [decide_eq_false hup] <;> simp
      have e2 : closedF rows (x :: r) = false := by
        unfold closedF
        rw [downs_up, decide_eq_false hup] <;> simp
      rw [e1, e2]
theorem closed_in {rows : List Rw} {ns : List Int} (h : closedF rows ns = true) : ns ≠ [] ∧ (∀ n ∈ ns, inR rows n = true) ∧ ∀ w ∈ rowsAt rows ns, ∀ x ∈ w.1, ∃ a ∈ rowsAt rows ns, ∃ b ∈ rowsAt rows ns, x ∈ a.1 ∧ x ∈ b.1 ∧ a.2 ≠ b.2 := by
  unfold closedF at h
  simp only [Bool.and_eq_true] at h
  obtain ⟨h1, h2, _, h4⟩ := h
  refine ⟨fun e => (by rw [e] at h1; cases h1), List.all_eq_true.mp h2, fun w hw x hx => ?_⟩
  have z := List.all_eq_true.mp h4 x (List.mem_flatMap.mpr ⟨w, hw, hx⟩)
  rw [Bool.not_eq_true', decide_eq_false_iff_not, ← setOf_glen, lt_two] at z
  refine Classical.byContradiction fun hno => z fun a ha b hb => Classical.byContradiction fun hne => hno ?_
  obtain ⟨u, hu, rfl⟩ := List.mem_map.mp ha
  obtain ⟨v, hv, rfl⟩ := List.mem_map.mp hb
  obtain ⟨u1, u2⟩ := List.mem_filter.mp hu
  obtain ⟨v1, v2⟩ := List.mem_filter.mp hv
  exact ⟨u, u1, v, v1, of_decide_eq_true u2, of_decide_eq_true v2, hne⟩
theorem closed_no_fit {tags : List Str} {rows : List Rw} {l : List (Str × Str)} {ns : List Int} (ho : overT tags l) (hne : ∀ r ∈ rows, r.1 ≠ []) (ht : ∀ r ∈ rows, ∀ x ∈ r.1, x ∈ tags) (h : closedF rows ns = true) : fits l (rowsAt rows ns) = false := by
  obtain ⟨h1, h2, h3⟩ := closed_in h
  have hin := rows_in h2
  refine no_fit (fun e => h1 (List.map_eq_nil_iff.mp e)) (fun w hw => hne w (hin w hw)) (fun w hw x hx => ho.2.mem_iff.mpr (ht w (hin w hw) x hx)) h3
/-! ### a case -/
theorem allD_len {tags : List Str} (h : tags.length ≤ 3) : (allD tags).length ≤ 48 := by
  have hno : (ordersN tags.length tags).length ≤ 6 := by
    refine Nat.le_trans (ordersN_len _ tags rfl) ?_
    have e : tags.length = 0 ∨ tags.length = 1 ∨ tags.length = 2 ∨ tags.length = 3 := by omega
    rcases e with e | e | e | e <;> rw [e] <;> decide
  have hnk : (kindsF tags.length).length ≤ 8 := by
    rw [kindsF_len]
    have e : tags.length = 0 ∨ tags.length = 1 ∨ tags.length = 2 ∨ tags.length = 3 := by omega
    rcases e with e | e | e | e <;> rw [e] <;> decide
  refine Nat.le_trans (foldD_len tags (allLines tags) []) ?_
  have z := flatMap_le (linesOf tags) 8 (ordersN tags.length tags) fun o' _ => by
    unfold linesOf
    rw [List.length_map]
    exact hnk
  unfold allLines
  rw [List.length_nil]
  omega
theorem every_len {tags : List Str} (h : tags.length ≤ 3) : (everyF tags).length ≤ 48 := by
  unfold everyF
  rw [(List.mergeSort_perm _ _).length_eq, List.length_map]
  exact allD_len h
/-- labels, all lines, answers as the law asks them -/
structure rCase (tags : List Str) (rows : List Rw) : Prop extends okCase tags rows where
  t3 : tags.length ≤ 3
  ne : ∀ r ∈ rows, r.1 ≠ []
  r64 : ∀ r ∈ rows, r.1.length ≤ 64
  r6 : rows.length ≤ 6
  tp : 1 ≤ tags.length
theorem fit_none {tags : List Str} {rows : List Rw} (c : rCase tags rows) (h : leftF tags rows ≠ []) : fittingF (everyF tags) rows = [] := by
  unfold fittingF
  rw [List.filter_eq_nil_iff]
  intro t ht hf
  have z := left_no_fit ((every_ok c.nd ht).2.2) c.ne c.sub h
  rw [z] at hf
  cases hf
theorem found_fine {tags : List Str} {rows : List Rw} (c : rCase tags rows) (h : leftF tags rows = []) :
    (peeledF tags rows).2 = [] ∧ overT tags (plainP (peeledF tags rows).1.reverse) ∧ (textOf (plainP (peeledF tags rows).1.reverse), plainP (peeledF tags rows).1.reverse) ∈ fittingF (everyF tags) rows := by
  have e := ref_left c.nd c.kn c.sub
  rw [h] at e
  have e2 : (peeledF tags rows).2 = [] := List.map_eq_nil_iff.mp e
  obtain ⟨ho, hf⟩ := (peeled_ok c.nd c.kn c.sub).2.1 e2
  have hp := ho.plain c.nd
  refine ⟨e2, hp, List.mem_filter.mpr ⟨every_has c.nd hp (plainP_plain _), ?_⟩⟩
  show fits (plainP (peeledF tags rows).1.reverse) rows = true
  unfold fits at hf ⊢
  rw [List.all_eq_true] at hf ⊢
  intro r hr
  rw [plainP_outer]
  exact hf r hr
theorem closed_fit {tags : List Str} {rows : List Rw} (c : rCase tags rows) {ns : List Int} (h : closedF rows ns = true) : fittingF (everyF tags) (rowsAt rows ns) = [] := by
  unfold fittingF
  rw [List.filter_eq_nil_iff]
  intro t ht hf
  have z := closed_no_fit ((every_ok c.nd ht).2.2) c.ne c.sub h
  rw [z] at hf
  cases hf
/-! ### answers as data -/
theorem noDicts_map {α : Type} (f : α → PyData) : ∀ (xs : List α), (∀ x ∈ xs, noDict (f x) = true) → noDicts (xs.map f) = true
  | [], _ => rfl
  | x :: xs, h => by rw [List.map_cons, noDicts, h x List.mem_cons_self, noDicts_map f xs fun y hy => h y (List.mem_cons_of_mem _ hy)] <;> rfl
theorem wides_map {α : Type} (f : α → PyData) : ∀ (xs : List α), (∀ x ∈ xs, wide (f x)) → wides (xs.map f)
  | [], _ => trivial
  | x :: xs, h => ⟨h x List.mem_cons_self, wides_map f xs fun y hy => h y (List.mem_cons_of_mem _ hy)⟩
theorem levs_map {α : Type} (f : α → PyData) (n : Nat) : ∀ (xs : List α), (∀ x ∈ xs, lev (f x) ≤ n) → levs (xs.map f) ≤ n
  | [], _ => Nat.zero_le _
  | x :: xs, h => by
    rw [List.map_cons, levs]
    exact Nat.max_le.mpr ⟨h x List.mem_cons_self, levs_map f n xs fun y hy => h y (List.mem_cons_of_mem _ hy)⟩
/-- data without dicts, of few levels, in tuples or lists -/
structure nice (d : PyData) (n : Nat) : Prop where
  nd : noDict d = true
  wd : wide d
  lv : lev d ≤ n
theorem nice_str (x : Str) (n : Nat) : nice (.str x) n := ⟨rfl, trivial, Nat.zero_le _⟩
theorem nice_int (x : Int) (n : Nat) : nice (.int x) n := ⟨rfl, trivial, Nat.zero_le _⟩
theorem nice_bool (x : Bool) (n : Nat) : nice (.bool x) n := ⟨rfl, trivial, Nat.zero_le _⟩
theorem nice_tup {α : Type} (f : α → PyData) {n : Nat} {xs : List α} (h : ∀ x ∈ xs, nice (f x) n) (hl : xs.length ≤ 90000) : nice (.tuple (xs.map f)) (n + 1) :=
  ⟨noDicts_map f xs fun x hx => (h x hx).nd, ⟨by rw [List.length_map]; exact hl, wides_map f xs fun x hx => (h x hx).wd⟩, Nat.succ_le_succ (levs_map f n xs fun x hx => (h x hx).lv)⟩
theorem nice_lst {α : Type} (f : α → PyData) {n : Nat} {xs : List α} (h : ∀ x ∈ xs, nice (f x) n) (hl : xs.length ≤ 90000) : nice (.list (xs.map f)) (n + 1) :=
  ⟨noDicts_map f xs fun x hx => (h x hx).nd, ⟨by rw [List.length_map]; exact hl, wides_map f xs fun x hx => (h x hx).wd⟩, Nat.succ_le_succ (levs_map f n xs fun x hx => (h x hx).lv)⟩
theorem nice_up {d : PyData} {n m : Nat} (h : nice d n) (hm : n ≤ m) : nice d m := ⟨h.nd, h.wd, Nat.le_trans h.lv hm⟩
theorem nice_row {r : Rw} (h : r.1.length ≤ 64) : nice (eRow r) 2 := nice_tup id (n := 1) (xs := [eTS r.1, .str r.2]) (fun x hx => by
  rcases List.mem_cons.mp hx with rfl | hx
  · exact nice_tup PyData.str (fun x _ => nice_str x 0) (by omega)
  · rw [List.mem_singleton.mp hx]
    exact nice_str _ _) (by simp)
def sRow (r : Rw) : PyData := .list [.list (r.1.map .str), .str r.2]
theorem nice_srow {r : Rw} (h : r.1.length ≤ 64) : nice (sRow r) 2 := nice_lst id (n := 1) (xs := [.list (r.1.map .str), .str r.2]) (fun x hx => by
  rcases List.mem_cons.mp hx with rfl | hx
  · exact nice_lst PyData.str (fun x _ => nice_str x 0) (by omega)
  · rw [List.mem_singleton.mp hx]
    exact nice_str _ _) (by simp)
theorem map_strs_list (xs : List Str) : (xs.map PyData.str).map listD = xs.map PyData.str := by
  rw [List.map_map]
  exact List.map_congr_left fun x _ => rfl
theorem map_strs_tup (xs : List Str) : (xs.map PyData.str).map tupD = xs.map PyData.str := by
  rw [List.map_map]
  exact List.map_congr_left fun x _ => rfl
theorem listD_row (r : Rw) : listD (eRow r) = sRow r := by
  unfold eRow eTS sRow
  rw [listD, listAll_map]
  show PyData.list [listD (.tuple (r.1.map .str)), listD (.str r.2)] = _
  rw [listD, listAll_map, map_strs_list] <;> rfl
theorem listD_rows (rows : List Rw) : listD (eRows rows) = .list (rows.map sRow) := by
  unfold eRows
  rw [listD, listAll_map, List.map_map]
  congr 1
  exact List.map_congr_left fun r _ => listD_row r
theorem tupD_row (r : Rw) : tupD (eRow r) = eRow r := by
  unfold eRow eTS
  rw [tupD, tupAll_map]
  show PyData.tuple [tupD (.tuple (r.1.map .str)), tupD (.str r.2)] = _
  rw [tupD, tupAll_map, map_strs_tup] <;> rfl
theorem tupD_srow (r : Rw) : tupD (sRow r) = eRow r := by
  unfold sRow eRow eTS
  rw [tupD, tupAll_map]
  show PyData.tuple [tupD (.list (r.1.map .str)), tupD (.str r.2)] = _
  rw [tupD, tupAll_map, map_strs_tup] <;> rfl
theorem tupD_rows (rows : List Rw) : tupD (eRows rows) = eRows rows := by
  unfold eRows
  rw [tupD, tupAll_map, List.map_map]
  congr 1
  exact List.map_congr_left fun r _ => tupD_row r
theorem tupD_srows (rows : List Rw) : tupD (.list (rows.map sRow)) = eRows rows := by
  unfold eRows
  rw [tupD, tupAll_map, List.map_map]
  congr 1
  exact List.map_congr_left fun r _ => tupD_srow r
theorem nice_rows {rows : List Rw} (h : ∀ r ∈ rows, r.1.length ≤ 64) (hl : rows.length < 64) : nice (eRows rows) 3 := nice_tup eRow (fun r hr => nice_row (h r hr)) (by omega)
theorem nice_srows {rows : List Rw} (h : ∀ r ∈ rows, r.1.length ≤ 64) (hl : rows.length < 64) : nice (.list (rows.map sRow)) 3 := nice_lst sRow (fun r hr => nice_srow (h r hr)) (by omega)
theorem eInts_nice (ks : List Nat) (h : ks.length ≤ 90000) : nice (orNone ks) 1 := by
  unfold orNone
  by_cases e : ks = []
  · rw [if_pos e]
    exact ⟨rfl, trivial, Nat.zero_le _⟩
  · rw [if_neg e]
    exact nice_tup (fun k : Nat => PyData.int (k : Int)) (fun k _ => nice_int _ 0) h
theorem orNone_lay (ks : List Nat) : (orNone ks).canLay0 = true := by
  unfold orNone
  by_cases e : ks = []
  · rw [if_pos e] <;> rfl
  · rw [if_neg e]
    unfold eInts
    simp [PyData.canLay0, (lay_ints ks).1]
theorem isNo_orNone (ks : List Nat) : isNo (orNone ks) = decide (ks = []) := by
  unfold orNone
  by_cases e : ks = []
  · rw [if_pos e, decide_eq_true e] <;> rfl
  · rw [if_neg e, decide_eq_false e] <;> rfl
theorem fine_two {d : PyData} {n : Nat} (h : nice d n) (hl : d.canLay0 = true) : Pk.fine (.list [d, d]) ∧ lev (.list [d, d]) ≤ n + 1 := by
  have z := nice_lst id (n := n) (xs := [d, d]) (fun x hx => by
    have e : x = d := by simpa using hx
    rw [e]
    exact h) (by simp)
  refine ⟨⟨z.nd, z.wd, ?_⟩, z.lv⟩
  simp [PyData.canLay0, PyData.canLayAll0, hl]
end Pk


set_option Elab.async false
set_option linter.all false
set_option maxRecDepth 100000
set_option maxHeartbeats 4000000
/-! Pk25: calls by keywords alone; != of what one_fitting gives. -/
namespace Pk
open PySem PySem.Spec PyProof.Rows L2 PkH PySem.W
def swK2 {α : Type} (d : α) (us ws : List α) : List α := us ++ us ++ us ++ (match ws with
  | [a, b] => [b, a]
  | _ => [d, d, d, d, d])
def swK3 {α : Type} (d : α) (us ws : List α) : List α := us ++ us ++ us ++ us ++ (match ws with
  | [a, b, c] => [c, b, a]
  | _ => [d, d, d, d, d])
theorem swK2_len {α : Type} {d : α} {us ws : List α} (h : (swK2 d us ws).length = 2) : us = [] ∧ ∃ a b, ws = [a, b] := by
  unfold swK2 at h
  rw [List.length_append, List.length_append, List.length_append] at h
  match ws, h with
  | [a, b], h => exact ⟨List.eq_nil_of_length_eq_zero (by simp at h; omega), a, b, rfl⟩
  | [], h => simp at h
  | [_], h => simp at h
  | _ :: _ :: _ :: _, h => simp at h
theorem swK3_len {α : Type} {d : α} {us ws : List α} (h : (swK3 d us ws).length = 3) : us = [] ∧ ∃ a b c, ws = [a, b, c] := by
  unfold swK3 at h
  rw [List.length_append, List.length_append, List.length_append, List.length_append] at h
  match ws, h with
  | [a, b, c], h => exact ⟨List.eq_nil_of_length_eq_zero (by simp at h; omega), a, b, c, rfl⟩
  | [], h => simp at h
  | [_], h => simp at h
  | [_, _], h => simp at h
  | _ :: _ :: _ :: _ :: _, h => simp at h
theorem five_non : Vals [V.non, .non, .non, .non, .non] [Value.none, .none, .none, .none, .none] := .cons rfl (.cons rfl (.cons rfl (.cons rfl (.cons rfl .nil))))
theorem swK2_rel {vs zs : List V} {us ws : List Value} (r : Vals vs us) (rz : Vals zs ws) : Vals (swK2 .non vs zs) (swK2 .none us ws) := by
  unfold swK2
  refine ((r.append r).append r).append ?_
  cases rz with
  | nil => exact five_non
  | cons a t =>
    cases t with
    | nil => exact five_non
    | cons b t =>
      cases t with
      | nil => exact .cons b (.cons a .nil)
      | cons c t => exact five_non
theorem swK3_rel {vs zs : List V} {us ws : List Value} (r : Vals vs us) (rz : Vals zs ws) : Vals (swK3 .non vs zs) (swK3 .none us ws) := by
  unfold swK3
  refine (((r.append r).append r).append r).append ?_
  cases rz with
  | nil => exact five_non
  | cons a t =>
    cases t with
    | nil => exact five_non
    | cons b t =>
      cases t with
      | nil => exact five_non
      | cons c t =>
        cases t with
        | nil => exact .cons c (.cons b (.cons a .nil))
        | cons d t => exact five_non
section
variable {K : PySem.W.Frag} {x qual : Str} {st : Stmt} {f : Addr} {fd : FuncData} {ps ks : List Str}
theorem kb2 (F : FnP K x qual st f fd) (hps : ps.length = 2) (h : ∀ (kV doc pm : Value) (an : Option Addr) (cdv ct a b : Value), bindArgs (PySem.W.fnOf x qual (defArgs st) (defBody st) (defScope st) .none kV doc pm an cdv ct) ⟨[], ks.zip [a, b]⟩ = pure (ps.zip [b, a])) :
    KBinds K fd ps ks (swK2 .none) (swK2 .non) := by
  obtain ⟨oc, od, dV, kV, doc, pm, an, cdv, ct, osl, rfl, lk, hcd, hD, hK⟩ := F.ex
  rcases hD with ⟨_, rfl⟩ | ⟨e, _⟩
  · refine ⟨fun s us ws _ hl => ?_, fun r rz => swK2_rel r rz⟩
    obtain ⟨rfl, a, b, rfl⟩ := swK2_len (hl.trans hps)
    exact .of_eq (h kV doc pm an cdv ct a b)
  · exact absurd rfl e
theorem kb3 (F : FnP K x qual st f fd) (hps : ps.length = 3) (h : ∀ (kV doc pm : Value) (an : Option Addr) (cdv ct a b c : Value), bindArgs (PySem.W.fnOf x qual (defArgs st) (defBody st) (defScope st) .none kV doc pm an cdv ct) ⟨[], ks.zip [a, b, c]⟩ = pure (ps.zip [c, b, a])) :
    KBinds K fd ps ks (swK3 .none) (swK3 .non) := by
  obtain ⟨oc, od, dV, kV, doc, pm, an, cdv, ct, osl, rfl, lk, hcd, hD, hK⟩ := F.ex
  rcases hD with ⟨_, rfl⟩ | ⟨e, _⟩
  · refine ⟨fun s us ws _ hl => ?_, fun r rz => swK3_rel r rz⟩
    obtain ⟨rfl, a, b, c, rfl⟩ := swK3_len (hl.trans hps)
    exact .of_eq (h kV doc pm an cdv ct a b c)
  · exact absurd rfl e
end
/-- a def that is called by keywords alone -/
def CalK (P : Program) (w : World) (K : PySem.W.Frag) (mg : Str → Option Value) (base : Heap) (k : Nat) (x : Str) (ps ks : List Str) (g : List Value → List Value → List Value) (gV : List V → List V → List V) (sp : Sp) : Prop := ∃ f fd, FnOk P w K mg base CX0 k f fd ps sp ∧ mg x = some (.ref f) ∧ PySem.W.keepIn K (.ref f) = true ∧ KBinds K fd ps ks g gV
theorem CalK.mono {P : Program} {w : World} {K : PySem.W.Frag} {mg : Str → Option Value} {base : Heap} {j k : Nat} {x : Str} {ps ks : List Str} {g : List Value → List Value → List Value} {gV : List V → List V → List V} {sp : Sp} (c : CalK P w K mg base j x ps ks g gV sp) (h : j ≤ k) : CalK P w K mg base k x ps ks g gV sp := by
  obtain ⟨f, fd, h1, h2, h3, h4⟩ := c
  exact ⟨f, fd, h1.mono h, h2, h3, h4⟩
section
variable {X : Cx} {k : Nat} {x : Str} {ps ks : List Str} {sp : Sp} {p pos : Pos} {kws : List Keyword} {tk : TA} {g : List Value → List Value → List Value} {gV : List V → List V → List V}
theorem pe_calK0 (c : CalK X.prog X.w X.K X.mg X.base k x ps ks g gV sp) (hr : Room k X.A) (hkw : PK X kws tk) (hg : Gl X x := by rfl) (hall : (backToKw pos (keywordEach kws X.env)).all (·.1.isSome) = true := by rfl) (hks : (backToKw pos (keywordEach kws X.env)).filterMap (·.1) = ks := by rfl)
    (hdb : (x == ("__debug__" : Str)) = false := by decide) (hpl : ((backTo pos (starEach [] X.env)).any (·.1) || (backToKw pos (keywordEach kws X.env)).any (·.1.isNone)) = false := by rfl) :
    PE X (.Call (.Name x p) [] kws pos) (tCallK sp gV E0 tNil tk) := by
  obtain ⟨f, fd, F, hm, hk, hb⟩ := c
  refine ⟨fun pins s σ H Q I h => ?_⟩
  refine wpAny_Call_Name_kw (ld_glob I hg hm ?_ hdb)
  refine PySem.W.callWith_KW0 (h₀ := X.base) I.ok.mod.kin hk hall (thn (hkw.run pos pins s σ H _ I h) fun ws s2 ⟨zs, H2, I2, rz, q2⟩ => ⟨I2.kIn, ?_⟩) hpl
  rw [hks]
  exact run_fnk F hr hb pass0 I2 .nil rz q2
end
section
variable {w : Wd} {n m : Nat} {B : Hp} {σ : L2.St} {tk : TA} {G : List Pr → Pr → Prop} {P P1 P2 P3 : Pr} {E : XK}
theorem ev_calK2 (h : EvA w n m tk σ B [P1, P2]) (hG : G [P2, P1] P) : Ev w n m (tCallK (spF G) (swK2 .non) E tNil tk) σ B P := ev_fnK ea_nil h (fun vs zs B' h1 h2 => by
  cases h1
  obtain ⟨v, u, rfl, a, b⟩ := two_at h2
  exact .cons b (.cons a .nil)) hG
theorem ev_calK3 (h : EvA w n m tk σ B [P1, P2, P3]) (hG : G [P3, P2, P1] P) : Ev w n m (tCallK (spF G) (swK3 .non) E tNil tk) σ B P := ev_fnK ea_nil h (fun vs zs B' h1 h2 => by
  cases h1
  cases h2 with
  | cons a h2 =>
    obtain ⟨v, u, rfl, b, c⟩ := two_at h2
    exact .cons c (.cons b (.cons a .nil))) hG
end
section
variable {P : Program} {w : World} {K : PySem.W.Frag} {mg : Str → Option Value} {base : Heap}
theorem calRefK (T : Txt K mg) (N : Nat) : CalK P w K mg base (N + 4) "refuting" ["labels", "answers"] ["answers", "labels"] (swK2 .none) (swK2 .non) (spF (GRef K N)) := by
  obtain ⟨f, fd, h1, h2, h3, h4, F⟩ := calRefF (P := P) (w := w) (base := base) T N
  exact ⟨f, fd, h1, h2, h3, kb2 F rfl fun _ _ _ _ _ _ _ _ => rfl⟩
theorem calOneFK (T : Txt K mg) (N : Nat) : CalK P w K mg base (N + 6) "one_fitting" ["labels", "answers"] ["answers", "labels"] (swK2 .none) (swK2 .non) (spF (GOneF K N)) := by
  obtain ⟨f, fd, h1, h2, h3, h4, F⟩ := calOneFF (P := P) (w := w) (base := base) T N
  exact ⟨f, fd, h1, h2, h3, kb2 F rfl fun _ _ _ _ _ _ _ _ => rfl⟩
theorem calIsRefK (T : Txt K mg) (N : Nat) : CalK P w K mg base (N + 4) "is_refuting" ["labels", "answers", "thing"] ["thing", "answers", "labels"] (swK3 .none) (swK3 .non) (spF (GIsRef K N)) := by
  obtain ⟨f, fd, h1, h2, h3, h4, F⟩ := calIsRefF (P := P) (w := w) (base := base) T N
  exact ⟨f, fd, h1, h2, h3, kb3 F rfl fun _ _ _ _ _ _ _ _ _ => rfl⟩
end
/-! != of what one_fitting gives -/
section
variable {X : Cx} {K : PySem.W.Frag} {mg : Str → Option Value}
theorem ko_neX {k : Nat} (T : Txt K mg) (q : X.K = K) (F : ∃ fd, FnOk X.prog X.w X.K X.mg X.base CX0 k (He.ma K (He.ga K "Roll") "__eq__") fd ["self", "other"] (spF (GEqR K)) ∧ Binds K fd ["self", "other"] []) (hr : Room (k + 1) X.A) : OpR X (compareOp .NotEq) (rNeX (cR K) (spF (GEqR K))) := by
  subst q
  obtain ⟨fd, F, hb⟩ := F
  exact op_neX F T.e_Roll_eq T.e_Roll_ne T.cl_Roll hb hr
theorem rv_neNon : RV (rNeX (cR K) (spF (GEqR K))) (DD K .none) (DD K .none) (dB K false) := fun w n B x y hx hy H c Q q => by
  obtain rfl := dd_none hx
  obtain rfl := dd_none hy
  exact .inl ⟨rfl, q _ B H Gr.refl c (.bl false)⟩
theorem rv_neRoll {line : List (Str × Str)} (h : ∀ p ∈ line, okP p) : RV (rNeX (cR K) (spF (GEqR K))) (RoP K line) (RoP K line) (dB K false) := fun w n B x y hx hy H c Q q => by
  have hx0 := hx
  have hy0 := hy
  obtain ⟨a, dx, t1, b1, rfl, ha, _⟩ := hx
  obtain ⟨b, dy, t2, b2, rfl, hb, _⟩ := hy
  refine .inr ⟨a, b, dx, dy, _, _, rfl, rfl, c.sub _ _ ha, c.sub _ _ hb, B, [RoP K line, RoP K line], dB K true, c.sub, .cons hx0 (.cons hy0 .nil), ⟨line, line, rfl, rfl, h, rfl⟩, fun v B' H' g s p => ⟨true, dd_bool p, ?_⟩⟩
  exact q _ B' H' g.lift (c.step0 g s) (.bl false)
end
end Pk


set_option Elab.async false
set_option linter.all false
set_option maxRecDepth 100000
set_option maxHeartbeats 4000000
/-! PkF29: _law_case_right. -/
namespace Pk
open PySem PySem.Spec PyProof.Rows L2 PkH PySem.W
theorem strOk_app {a b : Str} (ha : PyData.strOk a = true) (hb : PyData.strOk b = true) : PyData.strOk (a ++ b) = true := by
  unfold PyData.strOk at *
  show (a.cps ++ b.cps).all _ = true
  rw [Array.all_append, ha, hb] <;> rfl
theorem strOk_fold {a : Str} (ha : PyData.strOk a = true) : ∀ (ys : List Str) (x : Str), PyData.strOk x = true → (∀ y ∈ ys, PyData.strOk y = true) → PyData.strOk ⟨ys.foldl (fun acc p => acc ++ a.cps ++ p.cps) x.cps⟩ = true
  | [], x, h, _ => h
  | y :: ys, x, h, hy => by
    rw [List.foldl_cons]
    exact strOk_fold ha ys ⟨x.cps ++ a.cps ++ y.cps⟩ (strOk_app (a := ⟨x.cps ++ a.cps⟩) (b := y) (strOk_app h ha) (hy y List.mem_cons_self)) fun z hz => hy z (List.mem_cons_of_mem _ hz)
theorem strOk_join {a : Str} (ha : PyData.strOk a = true) {ys : List Str} (hy : ∀ y ∈ ys, PyData.strOk y = true) : PyData.strOk (Txt.join a ys) = true := by
  cases ys with
  | nil =>
    have e : Txt.join a [] = ⟨#[]⟩ := rfl
    rw [e]
    decide +kernel
  | cons y ys => exact strOk_fold ha ys y (hy y List.mem_cons_self) fun z hz => hy z (List.mem_cons_of_mem _ hz)
theorem strOk_text {l : List (Str × Str)} (h : ∀ p ∈ l, okP p) : PyData.strOk (textOf l) = true := by
  unfold textOf
  refine strOk_join (by decide +kernel) fun y hy => ?_
  obtain ⟨p, hp, rfl⟩ := List.mem_map.mp hy
  exact strOk_app (strOk_app (h p hp).1.ok (by decide +kernel)) (h p hp).2.2
theorem lay_line {l : List (Str × Str)} (h : ∀ p ∈ l, okP p) : (eLine l).canLay0 = true ∧ (eLine l).depth ≤ 2 := lay_tup eSS 1 fun p hp => lay_two (n := 0) (lay_str (h p hp).1.ok) (lay_str (h p hp).2.2)
theorem shaped_fine {ts : List (Str × List (Str × Str))} (h : ∀ t ∈ ts, t.1 = textOf t.2 ∧ ∀ p ∈ t.2, okP p) : SeqAt.shaped (.list (ts.map eTL)) = true :=
  lay_shape (lay_lst eTL 3 fun t ht => lay_two (n := 2) (lay_up (lay_str (by rw [(h t ht).1]; exact strOk_text (h t ht).2)) (by omega)) (lay_line (h t ht).2)) (by decide)
/-! the things that are asked -/
def rI (m : Nat) : List Int := (List.range m).map fun i : Nat => (i : Int)
def tailM (m : Nat) : List PyData := [.tuple [.int 0, .int 0], .tuple [.int 1, .int 0], .tuple [.int (-1)], .tuple [.int (m : Int)], .none, .str "0", .list [.int 0], .tuple [.bool true], .int 0]
def mats (m : Nat) : List PyData := [.tuple []] ++ (subs (rI m)).map (fun s => .tuple (s.map .int)) ++ tailM m
def MatV (rows : List Rw) (d : PyData) (b : Bool) : Prop := (isDict d = false ∧ (∀ xs, d ≠ .tuple xs) ∧ b = false) ∨ ((∃ b', d = .tuple [.bool b']) ∧ b = false) ∨ ∃ ns : List Int, d = .tuple (ns.map .int) ∧ ns.length < 64 ∧ b = closedF rows ns
theorem mats_ok (rows : List Rw) (h : rows.length ≤ 6) : ∀ d ∈ mats rows.length, ∃ b, MatV rows d b := by
  intro d hd
  have tup : ∀ ns : List Int, ns.length < 64 → ∃ b, MatV rows (.tuple (ns.map .int)) b := fun ns hn => ⟨_, .inr (.inr ⟨ns, rfl, hn, rfl⟩)⟩
  unfold mats at hd
  rcases List.mem_append.mp hd with hd | hd
  · rcases List.mem_append.mp hd with hd | hd
    · rw [List.mem_singleton.mp hd]
      exact tup [] (by simp)
    · obtain ⟨s, hs, rfl⟩ := List.mem_map.mp hd
      refine tup s ?_
      have z := (subs_sub hs).length_le
      unfold rI at z
      rw [List.length_map, List.length_range] at z
      omega
  · unfold tailM at hd
    have no : ∀ d : PyData, isDict d = false → (∀ xs, d ≠ .tuple xs) → ∃ b, MatV rows d b := fun d h1 h2 => ⟨false, .inl ⟨h1, h2, rfl⟩⟩
    simp only [List.mem_cons, List.not_mem_nil, or_false] at hd
    rcases hd with rfl | rfl | rfl | rfl | rfl | rfl | rfl | rfl | rfl
    · exact tup [0, 0] (by simp)
    · exact tup [1, 0] (by simp)
    · exact tup [-1] (by simp)
    · exact tup [(rows.length : Int)] (by simp)
    · exact no _ rfl fun xs e => by cases e
    · exact no _ rfl fun xs e => by cases e
    · exact no _ rfl fun xs e => by cases e
    · exact ⟨false, .inr (.inl ⟨⟨true, rfl⟩, rfl⟩)⟩
    · exact no _ rfl fun xs e => by cases e
section
variable {K : PySem.W.Frag} {B : Hp}
theorem lo_imp {α : Type} {F G : α → Pr} (h : ∀ x v B, (F x).p v B → (G x).p v B) {l : List α} {v : V} (hv : (LoP K (l.map F)).p v B) : (LoP K (l.map G)).p v B := by
  obtain ⟨a, vs, rfl, h1, h2⟩ := hv
  exact ⟨a, vs, rfl, h1, tup_imp h h2⟩
end
def GCase (K : PySem.W.Frag) : List Pr → Pr → Prop := fun Ps P => ∃ (tags : List Str) (rows : List Rw), Ps = [TuP K (tags.map (dS K)), LiP K ((everyF tags).map fun t => DD K (eTL t)), TuP K (rows.map fun r => DD K (eRow r))] ∧ rCase tags rows ∧ P = dB K true
theorem scCase : FnScope ["_law_tags_here", "_law_every_so", "_law_pairs_so", "_law_both_so", "_law_own", "_law_some", "_law_fine", "_law_soft_so", "_law_told", "_law_due", "_law_far", "_law_k"] ["_law_tags_here", "_law_every_so", "_law_pairs_so"] (defScope (top 72)) := ⟨rfl, rfl, rfl, by decide +kernel, rfl, by decide +kernel, by decide +kernel⟩
section
variable {P : Program} {w : World} {K : PySem.W.Frag} {mg : Str → Option Value} {base : Heap}
theorem calCase (T : Txt K mg) (I : TxI K) : Cal P w K mg base 13 "_law_case_right" ["_law_tags_here", "_law_every_so", "_law_pairs_so"] (spF (GCase K)) := by
  obtain ⟨fd, F⟩ := T.f_law_case_right
  have C_law_fitting := (calFit (P := P) (w := w) (base := base) T).mono (k := 12) (by omega)
  have C_law_lists := (calLists (P := P) (w := w) (base := base) T 3).mono (k := 12) (by omega)
  have C_refuting := (calRef (P := P) (w := w) (base := base) T 3).mono (k := 12) (by omega)
  have C_refuting_k := (calRefK (P := P) (w := w) (base := base) T 3).mono (k := 12) (by omega)
  have C_law_left := (calLeft (P := P) (w := w) (base := base) T).mono (k := 12) (by omega)
  have C_law_same := (calSame (P := P) (w := w) (base := base) T 2).mono (k := 12) (by omega)
  have C_one_fitting := (calOneF (P := P) (w := w) (base := base) T 3).mono (k := 12) (by omega)
  have C_one_fitting_k := (calOneFK (P := P) (w := w) (base := base) T 3).mono (k := 12) (by omega)
  have C_law_sets := (calSets (P := P) (w := w) (base := base) T).mono (k := 12) (by omega)
  have C_law_closed := (calClosed (P := P) (w := w) (base := base) T).mono (k := 12) (by omega)
  have C_is_refuting := (calIsRef (P := P) (w := w) (base := base) T 3).mono (k := 12) (by omega)
  have C_is_refuting_k := (calIsRefK (P := P) (w := w) (base := base) T 3).mono (k := 12) (by omega)
  have Q_Roll_text := (propTextR (P := P) (w := w) (base := base) T).mono (k := 11) (by omega)
  obtain ⟨fe, Fe⟩ := T.f_Roll_eq
  have G_Roll_eq : ∃ fd, FnOk P w K mg base CX0 11 (He.ma K (He.ga K "Roll") "__eq__") fd ["self", "other"] (spF (GEqR K)) ∧ Binds K fd ["self", "other"] [] := ⟨fe, (okREq T I Fe).mono (by omega), Fe.bindsN fun _ _ _ _ _ _ us hl => match us, hl with | [_, _], _ => rfl⟩
  refine cal_of (k := 12) F T.g_law_case_right scCase (fun Ps P ⟨_, _, e, _⟩ => by rw [e] <;> rfl) (fun _ _ _ _ _ _ us hl => match us, hl with | [_, _, _], _ => rfl) fun cdv A o s H E hr => ?_
  refine ⟨_, (pss_cons (ps_par (i := 6) (j := 7) (by rfl) scCase.nd rfl rfl (by decide) rfl rfl (pa_cons (pe_cal C_law_fitting hr (pa_cons (pv 1) (pa_cons (pv 2) pa_nil))) (pa_cons (pe_cal C_law_lists hr (pa_cons (pv 2) pa_nil)) pa_nil)) (by rfl))
    (pss_cons (ps_par (i := 8) (j := 9) (by rfl) scCase.nd rfl rfl (by decide) rfl rfl (pa_cons (pe_cal C_refuting hr (pa_cons (pv 0) (pa_cons (pv 2) pa_nil))) (pa_cons (pe_cal C_law_left hr (pa_cons (pv 0) (pa_cons (pv 2) pa_nil))) pa_nil)) (by rfl))
    (pss_cons (ps_if (PW.pt (pw_or (pt_not (pt_val (pe_cal C_law_same hr (pa_cons (pe_lst (pa_cons (pv 8) (pa_cons (pe_calK0 C_refuting_k hr (pk_cons (pv 7) (pk_cons (pe_callTy (kc_list (K := K) rfl) (by rfl) T.m_list (by decide +kernel) (pa_cons (pv 0) pa_nil)) pk_nil))) pa_nil))) (pa_cons (pe_lst (pa_cons (pv 9) (pa_cons (pv 9) pa_nil))) pa_nil))))) (pw_or1 (pt_cmpR op_ne (pe_cmpR op_isN (pv 9) pe_non (nomark _)) (pe_cmpR (ko_ne (K := K) rfl hr.units) (pv 6) (pe_lst pa_nil) (nomark _)) (nomark _))))) (pss_one (ps_ret pe_bl)) pss_nil)
    (pss_cons (ps_set (i := 3) scCase.nd rfl (by first | exact Or.inl rfl | exact Or.inr rfl) (pe_lst (pa_cons (pe_cal C_one_fitting hr (pa_cons (pv 0) (pa_cons (pv 2) pa_nil))) (pa_cons (pe_calK0 C_one_fitting_k hr (pk_cons (pv 7) (pk_cons (pe_callTy (kc_list (K := K) rfl) (by rfl) T.m_list (by decide +kernel) (pa_cons (pv 0) pa_nil)) pk_nil))) pa_nil))))
    (pss_cons (ps_for (passes_of rfl) rfl (kp_list (K := K) rfl (pv 3)) (pg_name (i := 4) scCase.nd rfl (by first | exact Or.inl rfl | exact Or.inr rfl)) (pss_cons (ps_if (PW.pt (pw_and (pt_cmpR (ko_eq (K := K) rfl hr.units) (pv 6) (pe_lst pa_nil) (nomark _)) (pw_and1 (pt_cmpR op_notN (pv 4) pe_non (nomark _))))) (pss_one (ps_ret pe_bl)) pss_nil)
    (pss_one (ps_if (PW.pt (pw_and (pt_cmpR (ko_ne (K := K) rfl hr.units) (pv 6) (pe_lst pa_nil) (nomark _)) (pw_and1 (PW.pt (pw_or (pt_not (pt_val (pe_callB (kc_isi (K := K) rfl) (by rfl) T.m_isinstance (by decide +kernel) (pa_cons (pv 4) (pa_cons (pe_glob (v := .ref (He.ga K "Roll")) rfl T.g_Roll rfl) pa_nil))))) (pw_or1 (pt_cmpR (ko_notIn (K := K) rfl) (pe_prp Q_Roll_text hr (pv 4)) (pe_lc (own := [("_law_far", 10)]) (by rfl) scCase.nd (kp_list (K := K) rfl (pv 6)) (blkOk_by (by kernel_rfl)) (fun _ _ _ _ _ => (pg_name (i := 10) scCase.nd rfl (by first | exact Or.inl rfl | exact Or.inr rfl))) (fun _ _ _ _ _ => pts_nil) (fun _ _ _ _ _ => (pe_ix (kx_tup (K := K) rfl) (pv 10) pe_int (fun _ _ => rfl)))) (by with_unfolding_all rfl)))))))) (pss_one (ps_ret pe_bl)) pss_nil))))
    (pss_cons (ps_if (pt_cmpR (ko_neX T rfl G_Roll_eq hr) (pe_ix (kx_list (K := K) rfl) (pv 3) pe_int (fun _ _ => rfl)) (pe_ix (kx_list (K := K) rfl) (pv 3) pe_int (fun _ _ => rfl)) (nomark _)) (pss_one (ps_ret pe_bl)) pss_nil)
    (pss_cons (ps_set (i := 5) scCase.nd rfl (by first | exact Or.inl rfl | exact Or.inr rfl) (pe_op op_cat (pe_op op_cat (pe_lst (pa_cons (pe_tup pa_nil) pa_nil)) (pe_cal C_law_sets hr (pa_cons (pe_tupRg rfl (by rfl) T.m_tuple (prg_1 (by rfl) T.m_range (pe_callB (kc_len (K := K) rfl) (by rfl) T.m_len PySem.boot_len (pa_cons (pv 2) pa_nil)))) pa_nil))) (pe_lst (pa_cons (pe_tup (pa_cons pe_int (pa_cons pe_int pa_nil))) (pa_cons (pe_tup (pa_cons pe_int (pa_cons pe_int pa_nil))) (pa_cons (pe_tup (pa_cons (pe_un un_neg pe_int) pa_nil)) (pa_cons (pe_tup (pa_cons (pe_callB (kc_len (K := K) rfl) (by rfl) T.m_len PySem.boot_len (pa_cons (pv 2) pa_nil)) pa_nil)) (pa_cons pe_non (pa_cons pe_str (pa_cons (pe_lst (pa_cons pe_int pa_nil)) (pa_cons (pe_tup (pa_cons pe_bl pa_nil)) (pa_cons pe_int pa_nil))))))))))))
    (pss_cons (ps_for (passes_of rfl) rfl (kp_list (K := K) rfl (pv 5)) (pg_name (i := 4) scCase.nd rfl (by first | exact Or.inl rfl | exact Or.inr rfl)) (pss_cons (ps_set (i := 9) scCase.nd rfl (by first | exact Or.inl rfl | exact Or.inr rfl) (pe_cal C_law_closed hr (pa_cons (pv 2) (pa_cons (pv 4) pa_nil))))
    (pss_cons (ps_if (pt_not (pt_val (pe_cal C_law_same hr (pa_cons (pe_lst (pa_cons (pe_cal C_is_refuting hr (pa_cons (pv 0) (pa_cons (pv 2) (pa_cons (pv 4) pa_nil)))) (pa_cons (pe_calK0 C_is_refuting_k hr (pk_cons (pv 4) (pk_cons (pv 7) (pk_cons (pv 0) pk_nil)))) pa_nil))) (pa_cons (pe_lst (pa_cons (pv 9) (pa_cons (pv 9) pa_nil))) pa_nil))))) (pss_one (ps_ret pe_bl)) pss_nil)
    (pss_one (ps_if (PW.pt (pw_and (pt_val (pv 9)) (pw_and1 (pt_cmpR (ko_ne (K := K) rfl hr.units) (pe_cal C_law_fitting hr (pa_cons (pv 1) (pa_cons (pe_lc (own := [("_law_k", 11)]) (by rfl) scCase.nd (kp_tup (K := K) rfl (pv 4)) (blkOk_by (by kernel_rfl)) (fun _ _ _ _ _ => (pg_name (i := 11) scCase.nd rfl (by first | exact Or.inl rfl | exact Or.inr rfl))) (fun _ _ _ _ _ => pts_nil) (fun _ _ _ _ _ => (pe_ix (kx_tup (K := K) rfl) (pv 2) (pv 11) (fun _ _ => rfl)))) pa_nil))) (pe_lst pa_nil) (nomark _))))) (pss_one (ps_ret pe_bl)) pss_nil)))))
    (pss_one (ps_ret pe_bl)))))))))), ?_⟩
  intro H B vs Ps P0 hs hp ⟨tags, rows, hP, ok, hP0⟩ D q
  subst hP hP0
  obtain ⟨tv, ev, pv, rfl, h0, h1, h2⟩ : ∃ tv ev pv, vs = [tv, ev, pv] ∧ (TuP K (tags.map (dS K))).p tv B ∧ (LiP K ((everyF tags).map fun t => DD K (eTL t))).p ev B ∧ (TuP K (rows.map fun r => DD K (eRow r))).p pv B := by
    cases hp with
    | cons a hp =>
      obtain ⟨v, u, rfl, b, c⟩ := two_at hp
      exact ⟨_, _, _, rfl, a, b, c⟩
  have hrl := ok.rl
  have h2d : (DD K (eRows rows)).p pv B := map_tt (f := eRow) h2
  have nr := nice_rows ok.r64 ok.rl
  have ns := nice_srows ok.r64 ok.rl
  have hokr : ∀ r ∈ rows, okRow r := fun r hr => ⟨fun x hx => (ok.nm x (ok.sub r hr x hx)).2, ok.kn r hr⟩
  have hel := every_len ok.t3
  have hev : ∀ t ∈ everyF tags, t.1 = textOf t.2 ∧ (∀ p ∈ t.2, okP p) ∧ t.2.length ≤ 64 ∧ ∀ x ∈ tags, ∃ p ∈ t.2, p.2 = x := fun t ht => by
    obtain ⟨e1, e2, e3⟩ := every_ok ok.nd ht
    refine ⟨e1, fun p hp => ⟨e3.1 p hp, (ok.nm p.2 (e3.2.mem_iff.mp (List.mem_map.mpr ⟨p, hp, rfl⟩))).2⟩, ?_, fun x hx => ?_⟩
    · have z := e3.2.length_eq
      rw [List.length_map] at z
      have y := ok.t3
      omega
    · obtain ⟨p, hp, e⟩ := List.mem_map.mp (e3.2.mem_iff.mpr hx)
      exact ⟨p, hp, e⟩
  have hcross : ∀ R : List Rw, (∀ r ∈ R, r ∈ rows) → ∀ t ∈ everyF tags, ∀ r ∈ R, ∃ p ∈ t.2, p.2 ∈ r.1 := fun R hR t ht r hr => by
    obtain ⟨x, hx⟩ : ∃ x, x ∈ r.1 := by
      cases e : r.1 with
      | nil => exact absurd e (ok.ne r (hR r hr))
      | cons x l => exact ⟨x, List.mem_cons_self⟩
    obtain ⟨p, hp, e⟩ := (hev t ht).2.2.2 x (ok.sub r (hR r hr) x hx)
    exact ⟨p, hp, by rw [e]; exact hx⟩
  have hfs : ∀ R : List Rw, SeqAt.shaped (.list ((fittingF (everyF tags) R).map eTL)) = true := fun R => shaped_fine fun t ht => by
    have z := hev t (List.mem_filter.mp ht).1
    exact ⟨z.1, z.2.1⟩
  refine q_par (m := 0) (P1 := LoP K ((fittingF (everyF tags) rows).map fun t => DD K (eTL t))) (P2 := DD K (.list (rows.map sRow))) (at0 hs) (ea_cons (ev_fn (ea_cons (ev_var (i := 1) rfl h1) (ea_cons (ev_var (i := 2) (P := SqP K (rows.map fun r => DD K (eRow r))) rfl (.inr h2)) ea_nil)) ⟨everyF tags, rows, rfl, by omega, by omega, fun t ht => (hev t ht).2.2.1, hokr, hcross rows fun r h => h, rfl⟩) (ea_cons ((ev_fn (ea_cons (ev_var (i := 2) rfl h2d) ea_nil) ⟨eRows rows, rfl, nr.nd, nr.wd, nr.lv, rfl⟩).to (P' := DD K (.list (rows.map sRow))) (by rw [listD_rows])) ea_nil)) fun fv sv B1 H1 t1 s1 hfv hsv => ?_
  have h01 := Pr.up h0 s1
  have h21 := Pr.up h2 s1
  have h2d1 := dd_up h2d s1
  refine q_par (m := 0) (P1 := DD K (orNone (leftF tags rows))) (P2 := DD K (orNone (leftF tags rows))) t1 (ea_cons ((ev_fn (ea_cons (ev_var (i := 0) rfl h01) (ea_cons (ev_var (i := 2) rfl h2d1) ea_nil)) ⟨tags, rows, eRows rows, _, rfl, .inr rfl, nr.nd, nr.wd, nr.lv, tupD_rows rows, ok.tl, ok.rl, rfl⟩).to (P' := DD K (orNone (leftF tags rows))) (by unfold refF; rw [ref_left ok.nd ok.kn ok.sub])) (ea_cons (ev_fn (ea_cons (ev_var (i := 0) rfl h01) (ea_cons (ev_var (i := 2) rfl h21) ea_nil)) ⟨tags, rows, rfl, ok.tl, ok.rl, rfl⟩) ea_nil)) fun av dv B2 H2 t2 s2 hav hdv => ?_
  have hsv2 := dd_up hsv s2
  have h02 := Pr.up h01 s2
  have hfv2 := Pr.up hfv s2
  have hlf : nice (orNone (leftF tags rows)) 1 := eInts_nice _ (by
    have z := (left_top (rows := rows) (tags := tags) ok.sub).sub.length_le
    rw [List.length_range] at z
    omega)
  have f2 := fine_two hlf (orNone_lay _)
  have hiff : decide (leftF tags rows = []) = !(fittingF (everyF tags) rows).isEmpty := by
    by_cases e : leftF tags rows = []
    · obtain ⟨e1, e2, e3⟩ := found_fine ok e
      rw [decide_eq_true e]
      cases q : fittingF (everyF tags) rows with
      | nil => rw [q] at e3; cases e3
      | cons x r => rfl
    · rw [decide_eq_false e, fit_none ok e] <;> rfl
  have hnoF : ∀ {w : Wd} {n : Nat} {σ : L2.St} {B' : Hp}, σ[6]? = some (some fv) → Same B2 B' → Ev w n n (tOp (rNeD K) (tVar 6) (tLst tNil)) σ B' (dB K (!(fittingF (everyF tags) rows).isEmpty)) := fun e s => (ev_op (ev_lod (ds := (fittingF (everyF tags) rows).map eTL) ((ev_var e (Pr.up hfv2 s)).to (P' := LoP K (((fittingF (everyF tags) rows).map eTL).map (DD K))) (by rw [List.map_map] <;> rfl))) ((ev_lst (K := K) ea_nil).imp fun _ _ z => ll_dd (ds := []) z) (rv_neD (K := K) (hfs rows) shaped_nil)).to (by rw [eqv_nil, List.isEmpty_map])
  have hyesF : ∀ {w : Wd} {n : Nat} {σ : L2.St} {B' : Hp}, σ[6]? = some (some fv) → Same B2 B' → Ev w n n (tOp (rEqD K) (tVar 6) (tLst tNil)) σ B' (dB K (fittingF (everyF tags) rows).isEmpty) := fun e s => (ev_op (ev_lod (ds := (fittingF (everyF tags) rows).map eTL) ((ev_var e (Pr.up hfv2 s)).to (P' := LoP K (((fittingF (everyF tags) rows).map eTL).map (DD K))) (by rw [List.map_map] <;> rfl))) ((ev_lst (K := K) ea_nil).imp fun _ _ z => ll_dd (ds := []) z) (rv_eqD (K := K) (hfs rows) shaped_nil)).to (by rw [eqv_nil, List.isEmpty_map])
  refine q_no (m := 0) t2 ((et_or (a := false) (b := false) ((et_not (et_test (K := K) (ev_fn (ea_cons ((ev_lst (K := K) (ea_cons (ev_var (i := 8) rfl hav) (ea_cons ((ev_calK2 (ea_cons (ev_var (i := 7) rfl hsv2) (ea_cons (ev_lo (ev_cb (ea_cons (ev_var (i := 0) rfl h02) ea_nil) rc_listT)) ea_nil)) ⟨tags, rows, _, _, rfl, .inl rfl, ns.nd, ns.wd, ns.lv, tupD_srows rows, ok.tl, ok.rl, rfl⟩).to (P' := DD K (orNone (leftF tags rows))) (by unfold refF; rw [ref_left ok.nd ok.kn ok.sub])) ea_nil))).imp fun _ _ z => ll_dd (ds := [orNone (leftF tags rows), orNone (leftF tags rows)]) z) (ea_cons ((ev_lst (K := K) (ea_cons (ev_var (i := 9) rfl hdv) (ea_cons (ev_var (i := 9) rfl hdv) ea_nil))).imp fun _ _ z => ll_dd (ds := [orNone (leftF tags rows), orNone (leftF tags rows)]) z) ea_nil)) ⟨_, rfl, f2.1, f2.2, rfl⟩))).to rfl) fun _ => et_test (K := K) ((ev_op (ev_op (ev_var (i := 9) rfl hdv) (ev_non (K := K)) rv_isN) (hnoF rfl (Same.refl B2)) rv_neB).to (congrArg (dB K) (by rw [isNo_orNone, hiff] <;> simp)))).to rfl) fun B3 H3 t3 s3 => ?_
  have s03 := (s1.trans s2).trans s3
  have h03 := Pr.up h0 s03
  have h2d3 := dd_up h2d s03
  refine q_asg (i := 3) (m := 0) (P := LoP K [oneP K tags rows, oneP K tags rows]) t3 (ev_lst' (K := K) (ea_cons (ev_fn (ea_cons (ev_var (i := 0) rfl h03) (ea_cons (ev_var (i := 2) rfl h2d3) ea_nil)) ⟨tags, rows, eRows rows, _, rfl, .inr rfl, nr.nd, nr.wd, nr.lv, tupD_rows rows, ok.tookCase, rfl⟩) (ea_cons (ev_calK2 (ea_cons (ev_var (i := 7) rfl (dd_up hsv2 s3)) (ea_cons (ev_lo (ev_cb (ea_cons (ev_var (i := 0) rfl h03) ea_nil) rc_listT)) ea_nil)) ⟨tags, rows, _, _, rfl, .inl rfl, ns.nd, ns.wd, ns.lv, tupD_srows rows, ok.tookCase, rfl⟩) ea_nil))) fun bv B4 H4 t4 s4 hbv => ?_
  refine q_for (m := 0) (xs := [(), ()]) (Y := fun _ => oneP K tags rows) (fun i Bs u k σ B => ∃ x4, u = w0 ∧ σ = [some tv, some ev, some pv, some bv, x4, none, some fv, some sv, some av, some dv, none, none]) t4 (es_list (K := K) (ev_lo (ev_var (i := 3) rfl hbv))) (fun B5 s5 => ⟨_, rfl, rfl⟩) ?turn1 ?done1
  case turn1 =>
    rintro i x ov Bs u k σ' B5 B6 H6 ei s5 s6 ⟨x4, rfl, rfl⟩ t6 s7 hov
    have s26 := ((((s3.trans s4).trans s5).trans s6).trans s7)
    show tSeq _ _ _ _ H6
    by_cases e : leftF tags rows = []
    · obtain ⟨e1, e2, e3⟩ := found_fine ok e
      have hne : (fittingF (everyF tags) rows).isEmpty = false := by
        cases q : fittingF (everyF tags) rows with
        | nil => rw [q] at e3; cases e3
        | cons x r => rfl
      have hov2 : (RoP K (plainP (peeledF tags rows).1.reverse)).p ov B6 := by
        have z := hov
        unfold oneP at z
        rw [if_pos e1] at z
        exact z
      have fl := ok.line e2
      have hll : 1 ≤ (plainP (peeledF tags rows).1.reverse).length := by
        have z := e2.2.length_eq
        rw [List.length_map] at z
        have y := ok.tp
        omega
      refine q_no (m := k) t6 ((et_and (m := k) (a := false) (b := false) (et_test (K := K) ((hyesF rfl s26).to (congrArg (dB K) hne))) fun z => by cases z).to rfl) fun B7 H7 t7 s8 => ?_
      have hov3 := Pr.up hov2 s8
      refine s_no (m := k + (fittingF (everyF tags) rows).length * 0) t7 ((et_and (m := k) (a := true) (b := false) (et_test (K := K) ((hnoF rfl (s26.trans s8)).to (congrArg (dB K) (by rw [hne] <;> rfl)))) fun _ => (et_or (m := k) (a := false) (b := false) ((et_not (et_test (K := K) (ev_cb (ea_cons (ev_var (i := 4) rfl hov3) (ea_cons (ev_c (P := VV (.ref (cR K))) rfl) ea_nil)) (rc_isiR T I)))).to rfl) fun _ => et_test (K := K) ((ev_op (ev_propR (ev_var (i := 4) rfl hov3) ⟨_, rfl, hll, fl.2.2, fun p hp => ⟨(by
        rcases (fl.1 p hp).1 with e | e <;> rw [e] <;> decide +kernel), (fl.1 p hp).2.2.1⟩, rfl⟩) (ev_lo ((ev_lc1 (K := K) (c := 0) (xs := fittingF (everyF tags) rows) (fun t => dS K t.1) (es_list (Y := fun t => DD K (eTL t)) (ev_lo (ev_var (i := 6) rfl (Pr.up hfv2 (s26.trans s8))))).s (by have z := List.length_filter_le (fun t : Str × List (Str × Str) => fits t.2 rows) (everyF tags); unfold fittingF; omega) fun t v B8 l ht s9 hv => ⟨_, tg_name, rfl, ev_op (ev_var (i := 10) rfl (dd_tt hv)) (ev_int (K := K)) (rv_ixT (atI_zero _ _))⟩).to (P' := LoP K (((fittingF (everyF tags) rows).map (·.1)).map (dS K))) (by rw [List.map_map] <;> rfl))) rv_inL).to (congrArg (dB K) (by
        simp only [if_true]
        rw [decide_eq_true (List.mem_map.mpr ⟨_, e3, rfl⟩)] <;> rfl)))).to rfl).to rfl) fun B8 H8 t8 s9 => ?_
      exact ⟨_, _, B8, t8, ((s6.trans s7).trans s8).trans s9, _, rfl, rfl⟩
    · have hem := fit_none ok e
      have hne : (fittingF (everyF tags) rows).isEmpty = true := by rw [hem] <;> rfl
      have e1 : (peeledF tags rows).2 ≠ [] := fun z => e (by
        have y := ref_left ok.nd ok.kn ok.sub
        rw [z] at y
        exact y.symm)
      have hov2 : (DD K .none).p ov B6 := by
        have z := hov
        unfold oneP at z
        rw [if_neg e1] at z
        exact z
      refine q_no (m := k) t6 ((et_and (m := k) (a := true) (b := false) (et_test (K := K) ((hyesF rfl s26).to (congrArg (dB K) hne))) fun _ => et_test (K := K) (ev_op (ev_var (i := 4) rfl hov2) (ev_non (K := K)) rv_notN)).to rfl) fun B7 H7 t7 s8 => ?_
      refine s_no (m := k) t7 ((et_and (m := k) (a := false) (b := false) (et_test (K := K) ((hnoF rfl (s26.trans s8)).to (congrArg (dB K) (by rw [hne] <;> rfl)))) fun z => by cases z).to rfl) fun B8 H8 t8 s9 => ?_
      exact ⟨_, _, B8, t8, ((s6.trans s7).trans s8).trans s9, _, rfl, rfl⟩
  case done1 =>
    rintro Bs u k σ' B5 H5 s5 s6 t5 ⟨x4, rfl, rfl⟩
    have s35 := (s4.trans s5).trans s6
    have hbv5 := Pr.up hbv (s5.trans s6)
    have hrv : RV (rNeX (cR K) (spF (GEqR K))) (oneP K tags rows) (oneP K tags rows) (dB K false) := by
      unfold oneP
      by_cases e : (peeledF tags rows).2 = []
      · rw [if_pos e]
        have z := (peeled_ok ok.nd ok.kn ok.sub).2.1 e
        have fl := ok.line (z.1.plain ok.nd)
        exact rv_neRoll fun p hp => ⟨(fl.1 p hp).1, (fl.1 p hp).2.2⟩
      · rw [if_neg e]
        exact rv_neNon
    refine q_no (m := k) t5 (et_test (K := K) (ev_op (ev_op (ev_lo (ev_var (i := 3) rfl hbv5)) (ev_int (K := K)) (rv_ixL rfl)) (ev_op (ev_lo (ev_var (i := 3) rfl hbv5)) (ev_int (K := K)) (rv_ixL rfl)) hrv)) fun B6 H6 t6 s7 => ?_
    have s06 := ((s03.trans s35).trans s7)
    have h26 := Pr.up h2 s06
    refine q_asg (i := 5) (m := k) (P := LoP K ((mats rows.length).map (DD K))) t6 ?things fun mv B7 H7 t7 s8 hmv => ?_
    case things =>
      have hlen : (rI rows.length).length = rows.length := by
        unfold rI
        rw [List.length_map, List.length_range]
      have hsub : (subs (rI rows.length)).length ≤ 64 := by
        unfold subs subsF
        rw [List.length_drop, subsF_len, hlen, List.length_singleton]
        have z : 2 ^ rows.length ≤ 2 ^ 6 := Nat.pow_le_pow_right (by decide) ok.r6
        omega
      have e0 : (mats rows.length).map (DD K) = ([PyData.tuple []].map (DD K) ++ ((subs (rI rows.length)).map fun s => DD K (.tuple (s.map .int)))) ++ (tailM rows.length).map (DD K) := by
        unfold mats
        rw [List.map_append, List.map_append, List.map_map] <;> rfl
      rw [e0]
      refine ev_op (ev_op (ev_lst' (K := K) (ea_cons ((ev_tup (K := K) ea_nil).imp fun _ _ z => tt_dd (ds := []) z) ea_nil)) (((ev_fn (ea_cons (ev_tupRg ((ev_cb (ea_cons (ev_var (i := 2) rfl h26) ea_nil) rc_lenT).to (P' := dI K (rows.length : Nat)) (by rw [List.length_map])) (by omega)) ea_nil) ⟨(rI rows.length).map (dI K), ?e1, by rw [List.length_map, hlen]; have z := ok.r6; omega, rfl⟩).to (P' := LoP K ((subs (rI rows.length)).map fun s => TuP K (s.map (dI K)))) (by rw [subs_map, List.map_map] <;> rfl)).imp fun v B' hv => lo_imp (fun s v B h => map_tt (f := PyData.int) h) hv) (rv_cat (by simp; omega))) ?tail (rv_cat ?l2)
      case e1 =>
        unfold rI
        rw [List.map_map] <;> rfl
      case l2 =>
        rw [List.length_append, List.length_map, List.length_map]
        unfold tailM
        simp
        omega
      case tail =>
        exact ev_lst' (K := K) (ea_cons ((ev_tup (K := K) (ea_cons ev_int (ea_cons ev_int ea_nil))).imp fun _ _ z => tt_dd (ds := [.int 0, .int 0]) z) (ea_cons ((ev_tup (K := K) (ea_cons ev_int (ea_cons ev_int ea_nil))).imp fun _ _ z => tt_dd (ds := [.int 1, .int 0]) z) (ea_cons ((ev_tup (K := K) (ea_cons (ev_un (ev_int (K := K)) ru_neg) ea_nil)).imp fun _ _ z => tt_dd (ds := [.int (-1)]) z) (ea_cons ((ev_tup (K := K) (ea_cons ((ev_cb (ea_cons (ev_var (i := 2) rfl h26) ea_nil) rc_lenT).to (P' := dI K (rows.length : Nat)) (by rw [List.length_map])) ea_nil)).imp fun _ _ z => tt_dd (ds := [.int (rows.length : Int)]) z) (ea_cons ev_non (ea_cons ev_str (ea_cons ((ev_lst (K := K) (ea_cons ev_int ea_nil)).imp fun _ _ z => ll_dd (ds := [.int 0]) z) (ea_cons ((ev_tup (K := K) (ea_cons ev_bl ea_nil)).imp fun _ _ z => tt_dd (ds := [.bool true]) z) (ea_cons ev_int ea_nil)))))))))
    refine q_for (m := k) (xs := mats rows.length) (Y := DD K) (fun i Bs u k' σ B => ∃ x4 x9, u = w0 ∧ σ = [some tv, some ev, some pv, some bv, x4, some mv, some fv, some sv, some av, x9, none, none]) t7 (es_list (K := K) (ev_lo (ev_var (i := 5) rfl hmv))) (fun B8 s9 => ⟨_, _, rfl, rfl⟩) ?turn2 ?done2
    case turn2 =>
      rintro i d ov Bs2 u k' σ2 B8 B9 H9 ei s9 s10 ⟨x4, x9, rfl, rfl⟩ t9 s11 hov
      obtain ⟨b, hb⟩ := mats_ok rows ok.r6 d (List.mem_of_getElem? ei)
      have s09 := (((s06.trans s8).trans s9).trans s10).trans s11
      have hp9 := Pr.up h2 s09
      have hpd9 := dd_up h2d s09
      have ht9 := Pr.up h0 s09
      have he9 := Pr.up h1 s09
      have hs9 := dd_up hsv2 (s3.trans ((s35.trans s7).trans (((s8.trans s9).trans s10).trans s11)))
      show tSeq _ _ _ _ H9
      refine q_asg (i := 9) (m := k') (P := dB K b) t9 (ev_fn (ea_cons (ev_var (i := 2) rfl hp9) (ea_cons (ev_var (i := 4) rfl hov) ea_nil)) ⟨rows, d, rfl, ok.rl, ok.r64, ?gc⟩) fun cv B10 H10 t10 s12 hcv => ?_
      case gc =>
        rcases hb with ⟨a1, a2, a3⟩ | ⟨a1, a3⟩ | ⟨ns, a1, a2, a3⟩
        · exact .inl ⟨a1, a2, by rw [a3]⟩
        · exact .inr (.inl ⟨a1, by rw [a3]⟩)
        · exact .inr (.inr ⟨ns, a1, by omega, by rw [a3]⟩)
      have hgr : (isDict d = false ∧ (∀ xs, d ≠ .tuple xs) ∧ dB K b = dB K false) ∨ ((∃ b, d = .tuple [.bool b]) ∧ dB K b = dB K false) ∨ ∃ ns : List Int, d = .tuple (ns.map .int) ∧ ns.length < 64 ∧ dB K b = dB K (isRefF rows ns) := by
        rcases hb with ⟨a1, a2, a3⟩ | ⟨a1, a3⟩ | ⟨ns, a1, a2, a3⟩
        · exact .inl ⟨a1, a2, by rw [a3]⟩
        · exact .inr (.inl ⟨a1, by rw [a3]⟩)
        · exact .inr (.inr ⟨ns, a1, a2, by rw [a3, isRef_closed ok.kn]⟩)
      have f3 := fine_two (nice_bool b 0) (show (PyData.bool b).canLay0 = true from rfl)
      have s010 := s12
      have hp10 := dd_up hpd9 s12
      have ht10 := Pr.up ht9 s12
      have ho10 := dd_up hov s12
      have hs10 := dd_up hs9 s12
      refine q_no (m := k') t10 ((et_not (et_test (K := K) (ev_fn (ea_cons ((ev_lst (K := K) (ea_cons (ev_fn (P := dB K b) (ea_cons (ev_var (i := 0) rfl ht10) (ea_cons (ev_var (i := 2) rfl hp10) (ea_cons (ev_var (i := 4) rfl ho10) ea_nil))) ⟨rows, eRows rows, d, _, rfl, nr.nd, nr.wd, nr.lv, tupD_rows rows, ok.rl, ok.r64, ⟨rows.map eRow, .inr rfl, List.length_map _⟩, hgr⟩) (ea_cons (ev_calK3 (P := dB K b) (ea_cons (ev_var (i := 4) rfl ho10) (ea_cons (ev_var (i := 7) rfl hs10) (ea_cons (ev_var (i := 0) rfl ht10) ea_nil))) ⟨rows, _, d, _, rfl, ns.nd, ns.wd, ns.lv, tupD_srows rows, ok.rl, ok.r64, ⟨rows.map sRow, .inl rfl, List.length_map _⟩, hgr⟩) ea_nil))).imp fun _ _ z => ll_dd (ds := [.bool b, .bool b]) z) (ea_cons ((ev_lst (K := K) (ea_cons (ev_var (i := 9) rfl hcv) (ea_cons (ev_var (i := 9) rfl hcv) ea_nil))).imp fun _ _ z => ll_dd (ds := [.bool b, .bool b]) z) ea_nil)) ⟨_, rfl, f3.1, by have z := f3.2; omega, rfl⟩))).to rfl) fun B11 H11 t11 s13 => ?_
      refine s_no (m := k') t11 ((et_and (m := k') (a := b) (b := false) (et_test (K := K) (ev_var (i := 9) rfl (dd_up hcv s13))) fun hbt => ?fit).to (by simp)) fun B12 H12 t12 s14 => ?_
      case fit =>
        obtain ⟨ns', rfl, hn, hcl⟩ : ∃ ns' : List Int, d = .tuple (ns'.map .int) ∧ ns'.length < 64 ∧ closedF rows ns' = true := by
          rcases hb with ⟨_, _, a3⟩ | ⟨_, a3⟩ | ⟨ns', a1, a2, a3⟩
          · rw [a3] at hbt
            cases hbt
          · rw [a3] at hbt
            cases hbt
          · exact ⟨ns', a1, a2, a3.symm.trans hbt⟩
        obtain ⟨c1, c2, c3⟩ := closed_in hcl
        have hin := rows_in c2
        have hem := closed_fit ok hcl
        have hrlen : (rowsAt rows ns').length ≤ 64 := by
          unfold rowsAt
          rw [List.length_map]
          omega
        have hpT := Pr.up hp9 (s12.trans s13)
        exact EvT.z (n := k') (m := k' + ns'.length * 0) (et_test (K := K) ((ev_op (ev_lod (ds := (fittingF (everyF tags) (rowsAt rows ns')).map eTL) ((ev_fn (ea_cons (ev_var (i := 1) rfl (Pr.up he9 (s12.trans s13))) (ea_cons (P := SqP K ((rowsAt rows ns').map fun r => DD K (eRow r))) ((ev_lo ((ev_lc1 (K := K) (c := 0) (xs := ns') (fun n => rP K (rk rows n.toNat)) (es_tup (Y := fun n => dI K n) (ev_var (i := 4) rfl (tt_map (f := PyData.int) (dd_up ho10 s13)))).s (by omega) fun n v B13 l hn4 s15 hv => ⟨_, tg_name, rfl, ev_op (ev_var (i := 2) rfl (Pr.up hpT s15)) (ev_var (i := 11) rfl hv) (rv_ixT (atI_rowI (c2 n hn4)))⟩).to (P' := LoP K ((rowsAt rows ns').map fun r => DD K (eRow r))) (by unfold rowsAt; rw [List.map_map] <;> rfl))).imp fun v B' hv => .inl hv) ea_nil)) ⟨everyF tags, rowsAt rows ns', rfl, by omega, hrlen, fun t ht => (hev t ht).2.2.1, fun r hr => hokr r (hin r hr), hcross _ hin, rfl⟩).to (P' := LoP K (((fittingF (everyF tags) (rowsAt rows ns')).map eTL).map (DD K))) (by rw [List.map_map] <;> rfl))) ((ev_lst (K := K) ea_nil).imp fun _ _ z => ll_dd (ds := []) z) (rv_neD (K := K) (hfs _) shaped_nil)).to (by rw [eqv_nil, List.isEmpty_map, hem] <;> rfl)))
      exact ⟨_, _, B12, t12, (((s10.trans s11).trans s12).trans s13).trans s14, _, _, rfl, rfl⟩
    case done2 =>
      rintro Bs2 u k' σ2 B8 H8 s9 s10 t8 ⟨x4, x9, rfl, rfl⟩
      exact s_ret (m := k') t8 (ev_bl (K := K)) fun v B' H' a s hv => q _ v B' H' a hv
end
end Pk


set_option Elab.async false
set_option linter.all false
set_option maxRecDepth 100000
set_option maxHeartbeats 4000000
/-! Pk26: t[::-1] of a tuple; tuple(text). -/
namespace HT
open PySem PySem.Spec PyProof.Rows L2
theorem all_at {α : Type} (m : List α) : (List.range m.length).filterMap (fun k => m[k]?) = m := by
  induction m with
  | nil => rfl
  | cons x m ih =>
    rw [List.length_cons, List.range_succ_eq_map, List.filterMap_cons]
    show x :: (List.filterMap (fun k => (x :: m)[k]?) (List.map Nat.succ (List.range m.length))) = x :: m
    rw [List.filterMap_map]
    congr 1
theorem fm_congr {α β : Type} {f g : α → Option β} : ∀ {l : List α}, (∀ x ∈ l, f x = g x) → l.filterMap f = l.filterMap g
  | [], _ => rfl
  | x :: l, h => by rw [List.filterMap_cons, List.filterMap_cons, h x List.mem_cons_self, fm_congr fun y hy => h y (List.mem_cons_of_mem _ hy)]
theorem rev_at (xs : Array Value) : ((List.range xs.size).filterMap fun (k : Nat) => xs[(((xs.size : Int) - 1) + (k : Int) * (-1)).toNat]?).toArray = xs.toList.reverse.toArray := by
  congr 1
  have h := all_at xs.toList.reverse
  rw [List.length_reverse, Array.length_toList] at h
  conv => rhs; rw [← h]
  refine fm_congr fun k hk => ?_
  rw [List.mem_range] at hk
  rw [List.getElem?_reverse (by rw [Array.length_toList]; exact hk), Array.length_toList]
  have e : (((xs.size : Int) - 1) + (k : Int) * (-1)).toNat = xs.size - 1 - k := by omega
  rw [e, Array.getElem?_toList]
theorem adjust_rev (n : Nat) : Builtin.Slice.sliceAdjust none none (-1) (n : Int) = ((n : Int) - 1, -1) := by
  unfold Builtin.Slice.sliceAdjust
  simp
theorem places_rev (n : Nat) : Builtin.Slice.slicePlaces ((n : Int) - 1) (-1) (-1) = n := by
  unfold Builtin.Slice.slicePlaces
  have h1 : ¬ ((-1 : Int) > 0) := by omega
  simp only [h1, if_false]
  split <;> simp <;> omega
section
variable {prog : Program} {w : World} {A : Around} {E : Value → Shared → Prop} {s : Shared}
theorem sliceApplied_rev {sl : Addr} {vs : Value} {n : Nat} {Q : Int × Int × Nat → Shared → Prop} (hs : s.heap.IsSliceOf sl .none .none vs) (ps : IsPart vs (some (-1))) (h : Q ((n : Int) - 1, -1, n) s) : wpAny (model prog w) A (Builtin.Slice.sliceApplied (.ref sl) (pure (n : Int))) Q E s := by
  obtain ⟨os, hos, hcs, hds⟩ := id hs
  unfold Builtin.Slice.sliceApplied Builtin.Slice.sliceFields
  refine wpAny_bind (wpAny_bind (wpAny_field hos hds (x := .none) rfl (wpAny_bind (wpAny_field hos hds (x := .none) rfl (wpAny_bind (wpAny_field hos hds (x := vs) rfl (wpAny_pure ?_)))))))
  refine wpAny_bind (slicePart_ ps ?_)
  show wpAny _ _ (if ((-1 : Int) == 0) = true then _ else _) _ _ s
  rw [if_neg (by decide)]
  refine wpAny_bind (slicePart_none (wpAny_bind (slicePart_none (wpAny_bind (wpAny_pure ?_)))))
  show wpAny _ _ (match Builtin.Slice.sliceAdjust none none (-1) (n : Int) with | (lo, hi) => pure (lo, (-1 : Int), Builtin.Slice.slicePlaces lo hi (-1))) _ _ s
  rw [adjust_rev n]
  show wpAny _ _ (pure ((n : Int) - 1, (-1 : Int), Builtin.Slice.slicePlaces ((n : Int) - 1) (-1) (-1))) _ _ s
  rw [places_rev]
  exact wpAny_pure h
theorem getItem_tuple_rev {t sl : Addr} {items : Array Value} {vs : Value} {Q : Value → Shared → Prop} (ht : IsTup s.heap t items) (hs : s.heap.IsSliceOf sl .none .none vs) (ps : IsPart vs (some (-1)))
    (h : Q (.ref s.heap.objs.size) { s with heap := s.heap.push { cls := .type "tuple", data := .seq items.toList.reverse.toArray } }) (hsz : items.size ≤ sizeLine) : wpAny (model prog w) A (getItem (.ref t) (.ref sl)) Q E s := by
  have hrev : sizeOk (.seq items.toList.reverse.toArray) := by
    show items.toList.reverse.toArray.size ≤ sizeLine
    rw [List.size_toArray, List.length_reverse, Array.length_toList]
    exact hsz
  obtain ⟨os, hos, hcs, hds⟩ := id hs
  have hTs : s.TypeIs (.ref sl) "slice" := ⟨os, hos, hcs⟩
  unfold getItem
  try with_reducible refine wpAny_holding ?_
  first | refine wpAny_bind (wpAny_pure ?_) | skip
  refine wpAny_bind (wpAny_sequenceKey ht.typeIs (by decide) ?_)
  refine wpAny_bind (wpAny_callSpecial?_slot (name := Str.ofString "__getitem__") ht.typeIs PyProof.Rows.slot_tuple_getitem
    (wpAny_call_entry PyProof.Rows.slot_tuple_getitem ht.typeIs entry_tuple_getitem ?_ (args_tuple_getitem _ _)))
  show wpAny _ _ (Builtin.Tuple.tupleItemsOf (.ref t) >>= _) _ _ s
  refine wpAny_bind (tupleItemsOf_ ht ?_)
  refine wpAny_bind (wpAny_typeOf hTs ?_)
  rw [if_pos (by decide)]
  refine wpAny_bind (sliceApplied_rev hs ps ?_)
  have hno : ¬ (((((items.size : Int) - 1) == 0 && (-1 : Int) == 1 && items.size == items.size)) = true) := by
    intro q
    rw [Bool.and_eq_true, Bool.and_eq_true] at q
    exact absurd q.1.2 (by decide)
  show wpAny _ _ (if ((((items.size : Int) - 1) == 0 && (-1 : Int) == 1 && items.size == items.size)) = true then _ else _) _ _ s
  rw [if_neg hno, rev_at]
  first
    | exact wpAny_bind (m := Builtin.Tuple.tupleExact _) (wpAny_newObj_type (wpAny_pure ⟨_, rfl, wpAny_pure h⟩) hrev)
    | exact wpAny_bind (m := Builtin.Tuple.tupleExact _) (wpAny_newObj_type (wpAny_bind (wpAny_pure (wpAny_pure ⟨_, rfl, wpAny_pure h⟩))) hrev)
    | exact wpAny_bind (wpAny_bind (m := Builtin.Tuple.tupleExact _) (wpAny_newObj_type (wpAny_pure (wpAny_pure ⟨_, rfl, wpAny_pure h⟩)) hrev))
    | exact wpAny_bind (wpAny_bind (m := Builtin.Tuple.tupleExact _) (wpAny_newObj_type (wpAny_pure ⟨_, rfl, wpAny_pure h⟩) hrev))
end
end HT
namespace Pk
open PySem PySem.Spec PyProof.Rows L2 PkH PySem.W
def tRevT (K : PySem.W.Frag) (te : TE) : TE := fun σ H Q => te σ H fun x H1 => ∃ a xs, x = .ref a ∧ SqT K H1 a xs ∧ ∀ p, H1 p = none → Q (.ref p) (upd H1 p (.tup xs.reverse))
section
variable {X : Cx}
theorem pe_revT' {e : Expr} {te : TE} {k : Nat} {p1 p2 p3 pos : Pos} (he : PE X e te) : PE X (.Subscript e (.Slice none none (some (.UnaryOp .USub (.Constant (.int 1) k p1) p2)) p3) pos) (tRevT X.K te) := by
  refine ⟨fun pins s σ H Q I h => ?_⟩
  refine Subscript_ (thn (he.run pins s σ H _ I h) fun v s1 ⟨x, H1, I1, r1, q1⟩ => ?_)
  obtain ⟨a, xs, ex, hx, q⟩ := q1
  subst ex
  cases r1
  have hst : PO X (some (.UnaryOp .USub (.Constant (.int 1) k p1) p2)) (tPart (tUn (rU fun i => .int (-i)) (tC (.int 1)))) := po_some (pe_un un_neg pe_int)
  refine wpAny_Slice (thn (po_none.run pins s1 σ H1 (fun o H2 => o = none ∧ H2 = H1) I1 ⟨rfl, rfl⟩) fun vl s2 ⟨l, H2, I2, pl, el, e2⟩ => ?_)
  subst el e2
  refine thn (po_none.run pins s2 σ H2 (fun o H3 => o = none ∧ H3 = H2) I2 ⟨rfl, rfl⟩) fun vu s3 ⟨u, H3, I3, pu, eu, e3⟩ => ?_
  subst eu e3
  refine thn (hst.run pins s3 σ H3 (fun o H4 => o = some (-1) ∧ H4 = H3) I3 ⟨1, rfl, -1, rfl, rfl, rfl⟩) fun vs s4 ⟨o, H4, I4, ps, eo, e4⟩ => ?_
  subst eo e4
  have I5 : L2.Inv X pins σ H4 { s4 with heap := s4.heap.push { cls := .type "slice", data := .fields #[vl, vu, vs] } } := I4.kept (t' := s4.toks) fun b ob q => Heap.get?_push_of_some _ q
  obtain ⟨its, r, ht, hz⟩ := I5.tuple hx
  have hlen := r.length
  cases pl
  cases pu
  show wpAny (model X.prog X.w) X.A (subscriptTail e (.Slice none none (some (.UnaryOp .USub (.Constant (.int 1) k p1) p2)) p3) (.ref a) (.ref s4.heap.objs.size)) (EP X pins σ Q) X.xe { s4 with heap := s4.heap.push { cls := .type "slice", data := .fields #[.none, .none, vs] } }
  refine tail_any (ops := [.ref a, .ref s4.heap.objs.size]) ht.typeIs PyProof.Rows.slot_tuple_getitem.lookup ?_ (by with_unfolding_all rfl)
  refine HT.getItem_tuple_rev ht (Heap.IsSliceOf.new _ .none .none vs) ps ?_ (by rw [List.size_toArray]; omega)
  refine ⟨.ref _, _, I5.laid (t' := s4.toks) (o := .tup xs.reverse) (fun b ob q => Heap.get?_push_of_some _ q) (Nat.le_refl _) ?_, rfl, q _ (I5.hok.fresh (Nat.le_refl _))⟩
  exact ⟨by rw [List.length_reverse]; exact hz, _, r.reverse, IsTup.new _ _⟩
theorem pe_revT {K : PySem.W.Frag} {e : Expr} {te : TE} {k : Nat} {p1 p2 p3 pos : Pos} (q : X.K = K) (he : PE X e te) : PE X (.Subscript e (.Slice none none (some (.UnaryOp .USub (.Constant (.int 1) k p1) p2)) p3) pos) (tRevT K te) := by subst q; exact pe_revT' he
/-- tuple(text) -/
def rTupS : List V → Hp → VK → Prop := fun xs H Q => ∃ x, xs = [.str x] ∧ x.length ≤ 1000 ∧ ∀ p, H p = none → Q (.ref p) (upd H p (.tup ((signs x).map V.str)))
theorem call_tupStr (hc : X.calm = true) : CallR X (.type "tuple") rTupS := by
  intro pins s σ H xs us Q I r h
  obtain ⟨x, rfl, hl, q⟩ := h
  obtain ⟨u, rfl, t, rfl⟩ := vals1 r
  have hsz : x.cps.size ≤ sizeLine := sz_of (show x.length ≤ 100000 by omega)
  refine call_tuple_str (I.ok.hd hc) x t (fun h' tk acc hk hacc => ?_) hsz
  have I2 : L2.Inv X pins σ H { s with heap := h', toks := tk } := I.kept hk
  have hz : acc.toList.length = (signs x).length := by
    unfold signs
    rw [Array.length_toList, hacc.1, List.length_map, Array.length_toList]
  refine ⟨.ref h'.objs.size, upd H h'.objs.size (.tup ((signs x).map V.str)), I2.laid (t' := tk) (fun c o e => Heap.get?_push_of_some _ e) (Nat.le_refl _) (show ObjOk X.prog X.w _ _ _ (.tup ((signs x).map V.str)) from ⟨?_, acc.toList, ?_, ?_⟩), rfl, q _ (I2.hok.fresh (Nat.le_refl _))⟩
  · rw [List.length_map, ← hz, Array.length_toList, hacc.1]
    exact hsz
  · refine vals_of_at (by rw [List.length_map, hz]) fun j y u e1 e2 => ?_
    rw [Array.getElem?_toList] at e2
    obtain ⟨c, k, e3, rfl⟩ := hacc.2 j u e2
    unfold signs at e1
    rw [List.map_map, List.getElem?_map, Array.getElem?_toList, e3] at e1
    obtain rfl := Option.some.inj e1
    exact ⟨_, rfl⟩
  · rw [Array.toArray_toList]
    exact IsTup.new _ _
end
section
variable {w : Wd} {n m : Nat} {K : PySem.W.Frag} {B : Hp} {σ : L2.St} {te : TE} {Ps : List Pr}
theorem ev_revT (h : Ev w n m te σ B (TuP K Ps)) : Ev w n m (tRevT K te) σ B (TuP K Ps.reverse) := fun B1 s1 =>
  Go.bind (f := fun x H1 (Q : V → Hp → Prop) => ∃ a xs, x = V.ref a ∧ SqT K H1 a xs ∧ ∀ p, H1 p = none → Q (.ref p) (upd H1 p (.tup xs.reverse))) (h B1 s1) fun x B2 s2 hx H c Q q => by
    obtain ⟨p, vs, rfl, h1, h2⟩ := hx
    exact ⟨p, vs, rfl, sqT_same c.sub h1, go_newT (K := K) (ps_rev h2) H c Q q⟩
theorem rc_tupS {x : Str} (h : x.length ≤ 1000) : RC rTupS [dS K x] (TuP K ((signs x).map (dS K))) := fun w n B vs hv H c Q q => by
  obtain ⟨v, rfl, h1⟩ := one_of hv
  exact ⟨x, by rw [dd_str h1], h, go_newT (K := K) (ps_strs (signs x)) H c Q q⟩
end
end Pk


set_option Elab.async false
set_option linter.all false
set_option maxRecDepth 100000
set_option maxHeartbeats 4000000
/-! PkO: the case by hand: what comes out. -/
namespace Pk
open PySem PySem.Spec PyProof.Rows L2 PkH PySem.W
def three : List Str := ["a", "b", "c"]
def wrong : List Rw := [(["a"], "max"), (["c"], "sum"), (["b"], "max"), (["a", "b"], "sum")]
def twice : List Rw := [(["a"], "max"), (["a"], "sum"), (["a", "b"], "sum"), (["b", "c"], "max")]
def ringR : List Rw := [(["a", "b"], "sum"), (["b", "c"], "max"), (["a", "c"], "max")]
def eight : List Str := ["a", "b", "c", "d", "e", "f", "g", "h"]
def farK (k : Nat) : Str := if k % 2 = 0 then "sum" else "max"
def farR : List Rw := (List.range 8).map fun k => (eight.drop k, farK k)
def lastR : Rw := (eight, "max")
def nine : List Rw := farR ++ [lastR]
def txt : Str := "max h; sum g; max f; sum e; max d; sum c; max b; sum a"
/-- what the law leaves, as the kernel can count it -/
def leftStepG (rows : List Rw) (st : List Str × List Nat) (own : Str) : List Str × List Nat :=
  if (gath (lKinds rows st.2 own)).length < 2 then (st.1.filter fun x => !decide (x = own), st.2.filter fun k => !decide (own ∈ (rk rows k).1)) else st
def leftNG (rows : List Rw) : Nat → List Str × List Nat → List Str × List Nat
  | 0, st => st
  | n + 1, st => (leftNG rows n st).1.reverse.foldl (leftStepG rows) (leftNG rows n st)
theorem leftStep_G (rows : List Rw) : leftStep rows = leftStepG rows := by
  funext st own
  unfold leftStep leftStepG
  rw [setOf_glen]
theorem leftN_G (rows : List Rw) : ∀ (n : Nat) (st : List Str × List Nat), leftN rows n st = leftNG rows n st
  | 0, _ => rfl
  | n + 1, st => by
    show leftRound rows (leftN rows n st) = _
    unfold leftRound
    rw [leftN_G rows n st, leftStep_G] <;> rfl
theorem ref_G {tags : List Str} {rows : List Rw} (c : okCase tags rows) : refF tags rows = (leftNG rows tags.length (tags, List.range rows.length)).2 := by
  unfold refF
  rw [ref_left c.nd c.kn c.sub]
  unfold leftF
  rw [leftN_G]
theorem okTag : ∀ x ∈ eight, okName x ∧ okS x := by
  unfold okName okS
  decide +kernel
theorem okTag3 : ∀ x ∈ three, okName x ∧ okS x := by
  unfold okName okS
  decide +kernel
theorem kn_of {rows : List Rw} (h : (∀ r ∈ rows, r.2 = "sum" ∨ r.2 = "max")) : ∀ r ∈ rows, isK r.2 := h
theorem ok_three {rows : List Rw} (h1 : ∀ r ∈ rows, r.2 = "sum" ∨ r.2 = "max") (h2 : ∀ r ∈ rows, ∀ x ∈ r.1, x ∈ three) (h3 : rows.length < 64) : okCase three rows := ⟨by decide +kernel, okTag3, h1, h2, by decide, h3⟩
theorem ok_eight {rows : List Rw} (h1 : ∀ r ∈ rows, r.2 = "sum" ∨ r.2 = "max") (h2 : ∀ r ∈ rows, ∀ x ∈ r.1, x ∈ eight) (h3 : rows.length < 64) : okCase eight rows := ⟨by decide +kernel, okTag, h1, h2, by decide, h3⟩
theorem ok_wrong : okCase three wrong := ok_three (by decide +kernel) (by decide +kernel) (by decide)
theorem ok_wrong3 : okCase three (wrong.take 3) := ok_three (by decide +kernel) (by decide +kernel) (by decide)
theorem ok_twice : okCase three twice := ok_three (by decide +kernel) (by decide +kernel) (by decide)
theorem ok_ring : okCase three ringR := ok_three (by decide +kernel) (by decide +kernel) (by decide)
theorem ok_none : okCase three [] := ok_three (by decide +kernel) (by decide +kernel) (by decide)
theorem ok_far : okCase eight farR := ok_eight (by decide +kernel) (by decide +kernel) (by decide)
theorem ok_farv : okCase eight farR.reverse := ok_eight (by decide +kernel) (by decide +kernel) (by decide)
theorem ok_nine : okCase eight nine := ok_eight (by decide +kernel) (by decide +kernel) (by decide)
theorem rc_three {rows : List Rw} (c : okCase three rows) (h1 : ∀ r ∈ rows, r.1 ≠ []) (h2 : ∀ r ∈ rows, r.1.length ≤ 64) (h3 : rows.length ≤ 6) : rCase three rows := ⟨c, by decide, h1, h2, h3, by decide⟩
theorem rc_wrong : rCase three wrong := rc_three ok_wrong (by decide +kernel) (by decide +kernel) (by decide)
theorem rc_wrong3 : rCase three (wrong.take 3) := rc_three ok_wrong3 (by decide +kernel) (by decide +kernel) (by decide)
theorem rc_twice : rCase three twice := rc_three ok_twice (by decide +kernel) (by decide +kernel) (by decide)
theorem rc_ring : rCase three ringR := rc_three ok_ring (by decide +kernel) (by decide +kernel) (by decide)
theorem rc_none : rCase three [] := rc_three ok_none (by decide +kernel) (by decide +kernel) (by decide)
theorem ref_wrong : refF three wrong = [0, 2, 3] := by
  rw [ref_G ok_wrong]
  decide +kernel
theorem ref_wrong3 : refF three (wrong.take 3) = [] := by
  rw [ref_G ok_wrong3]
  decide +kernel
theorem ref_none : refF three [] = [] := by
  rw [ref_G ok_none]
  decide +kernel
theorem ref_twice : refF three twice = [0, 1] := by
  rw [ref_G ok_twice]
  decide +kernel
theorem ref_nine : refF eight nine = List.range 9 := by
  rw [ref_G ok_nine]
  decide +kernel
theorem one_wrong (K : PySem.W.Frag) : oneP K three wrong = DD K .none := by
  unfold oneP
  rw [if_neg]
  intro e
  have z := ref_wrong
  unfold refF at z
  rw [e] at z
  cases z
theorem far_all : (peeledF eight farR).2 = [] := by
  have z : refF eight farR = [] := by
    rw [ref_G ok_far]
    decide +kernel
  exact List.map_eq_nil_iff.mp z
theorem farv_all : (peeledF eight farR.reverse).2 = [] := by
  have z : refF eight farR.reverse = [] := by
    rw [ref_G ok_farv]
    decide +kernel
  exact List.map_eq_nil_iff.mp z
theorem far_text : textOf (plainP (peeledF eight farR).1.reverse) = txt := by decide +kernel
theorem farv_text : textOf (plainP (peeledF eight farR.reverse).1.reverse) = txt := by decide +kernel
theorem join_text : Txt.join "; " (((List.range (signs "hgfedcba").length).zip (signs "hgfedcba")).map fun p => (if p.1 % 2 = 0 then ("max " : Str) else "sum ") ++ p.2) = txt := by decide +kernel
theorem signs_eight : signs "abcdefgh" = eight := by decide +kernel
theorem every_26 : (everyF three).length = 26 := by
  unfold everyF
  rw [(List.mergeSort_perm _ _).length_eq, List.length_map]
  decide +kernel
def six : List (PyData × Bool) := [(.tuple [.int 0, .int 2, .int 3], true), (.tuple [.int 0, .int 3], false), (.tuple [.int 0, .int 1, .int 2, .int 3], false), (.tuple [], false), (.tuple [.int 2, .int 0, .int 3], false), (.list [.int 0, .int 2, .int 3], false)]
theorem six_ok : ∀ p ∈ six, MatV wrong p.1 p.2 := by
  have tup : ∀ (ns : List Int) (b : Bool), ns.length < 64 → closedF wrong ns = b → MatV wrong (.tuple (ns.map .int)) b := fun ns b hn h => .inr (.inr ⟨ns, rfl, hn, h.symm⟩)
  intro p hp
  unfold six at hp
  simp only [List.mem_cons, List.not_mem_nil, or_false] at hp
  rcases hp with rfl | rfl | rfl | rfl | rfl | rfl
  · exact tup [0, 2, 3] true (by decide) (by decide +kernel)
  · exact tup [0, 3] false (by decide) (by decide +kernel)
  · exact tup [0, 1, 2, 3] false (by decide) (by decide +kernel)
  · exact tup [] false (by decide) (by decide +kernel)
  · exact tup [2, 0, 3] false (by decide) (by decide +kernel)
  · exact .inl ⟨rfl, fun xs e => (by cases e), rfl⟩
theorem tw1 : closedF twice [0, 1] = true := by decide +kernel
theorem tw2 : closedF twice [0, 1, 2, 3] = false := by decide +kernel
end Pk


set_option Elab.async false
set_option linter.all false
set_option maxRecDepth 100000
set_option maxHeartbeats 4000000
/-! PkF30: _law_by_hand_right. -/
namespace Pk
open PySem PySem.Spec PyProof.Rows L2 PkH PySem.W
section
variable {w : Wd} {n m l k : Nat} {K : PySem.W.Frag} {B : Hp} {σ : L2.St} {t1 t2 t3 : TE} {P : Pr} {E : XK} {tags : List Str} {rows : List Rw}
theorem ev_rowA {a k : Str} : Ev w n n (tTup (tCons (tTup (tCons (tC (.str a)) tNil)) (tCons (tC (.str k)) tNil))) σ B (DD K (eRow ([a], k))) :=
  (ev_tup (K := K) (ea_cons ((ev_tup (K := K) (ea_cons (ev_str (K := K)) ea_nil)).imp fun _ _ z => tt_dd (ds := [.str a]) z) (ea_cons (ev_str (K := K)) ea_nil))).imp fun _ _ z => tt_dd (ds := [.tuple [.str a], .str k]) z
theorem ev_rowB {a b k : Str} : Ev w n n (tTup (tCons (tTup (tCons (tC (.str a)) (tCons (tC (.str b)) tNil))) (tCons (tC (.str k)) tNil))) σ B (DD K (eRow ([a, b], k))) :=
  (ev_tup (K := K) (ea_cons ((ev_tup (K := K) (ea_cons (ev_str (K := K)) (ea_cons (ev_str (K := K)) ea_nil))).imp fun _ _ z => tt_dd (ds := [.str a, .str b]) z) (ea_cons (ev_str (K := K)) ea_nil))).imp fun _ _ z => tt_dd (ds := [.tuple [.str a, .str b], .str k]) z
theorem ev_ref {ks : List Nat} (h1 : Ev w n m t1 σ B (TuP K (tags.map (dS K)))) (h2 : Ev w m l t2 σ B (DD K (eRows rows))) (ok : okCase tags rows) (r64 : ∀ r ∈ rows, r.1.length ≤ 64) (e : refF tags rows = ks) :
    Ev w n l (tCall (spF (GRef K 3)) [] E (tCons t1 (tCons t2 tNil))) σ B (DD K (orNone ks)) := by
  have nr := nice_rows r64 ok.rl
  rw [← e]
  exact ev_fn (ea_cons h1 (ea_cons h2 ea_nil)) ⟨tags, rows, eRows rows, _, rfl, .inr rfl, nr.nd, nr.wd, nr.lv, tupD_rows rows, ok.tl, ok.rl, rfl⟩
theorem ev_one (h1 : Ev w n m t1 σ B (TuP K (tags.map (dS K)))) (h2 : Ev w m l t2 σ B (DD K (eRows rows))) (ok : okCase tags rows) (r64 : ∀ r ∈ rows, r.1.length ≤ 64) : Ev w n l (tCall (spF (GOneF K 3)) [] E (tCons t1 (tCons t2 tNil))) σ B (oneP K tags rows) := by
  have nr := nice_rows r64 ok.rl
  exact ev_fn (ea_cons h1 (ea_cons h2 ea_nil)) ⟨tags, rows, eRows rows, _, rfl, .inr rfl, nr.nd, nr.wd, nr.lv, tupD_rows rows, ok, rfl⟩
theorem ev_isref {d : PyData} {b : Bool} (h1 : Ev w n m t1 σ B P) (h2 : Ev w m l t2 σ B (DD K (eRows rows))) (h3 : Ev w l k t3 σ B (DD K d)) (ok : okCase tags rows) (r64 : ∀ r ∈ rows, r.1.length ≤ 64) (hb : MatV rows d b) :
    Ev w n k (tCall (spF (GIsRef K 3)) [] E (tCons t1 (tCons t2 (tCons t3 tNil)))) σ B (dB K b) := by
  have nr := nice_rows r64 ok.rl
  refine ev_fn (ea_cons h1 (ea_cons h2 (ea_cons h3 ea_nil))) ⟨rows, eRows rows, d, _, rfl, nr.nd, nr.wd, nr.lv, tupD_rows rows, ok.rl, r64, ⟨rows.map eRow, .inr rfl, List.length_map _⟩, ?_⟩
  rcases hb with ⟨a1, a2, a3⟩ | ⟨a1, a3⟩ | ⟨ns, a1, a2, a3⟩
  · exact .inl ⟨a1, a2, by rw [a3]⟩
  · exact .inr (.inl ⟨a1, by rw [a3]⟩)
  · exact .inr (.inr ⟨ns, a1, a2, by rw [a3, isRef_closed ok.kn]⟩)
/-- the text of what fits all -/
theorem ev_oneText {t : Str} (h : Ev w n m t1 σ B (oneP K tags rows)) (ok : okCase tags rows) (hall : (peeledF tags rows).2 = []) (ht : 1 ≤ tags.length) (e : textOf (plainP (peeledF tags rows).1.reverse) = t) : Ev w n m (tProp (cR K) (spF (GTextR K)) [] E t1) σ B (dS K t) := by
  have z := (peeled_ok ok.nd ok.kn ok.sub).2.1 hall
  have zo := z.1.plain ok.nd
  have fl := ok.line zo
  have hl := zo.2.length_eq
  rw [List.length_map] at hl
  rw [← e]
  unfold oneP at h
  rw [if_pos hall] at h
  exact ev_propR h ⟨_, rfl, by omega, fl.2.2, fun p hp => ⟨(by
    rcases (fl.1 p hp).1 with e | e <;> rw [e] <;> decide +kernel), (fl.1 p hp).2.2.1⟩, rfl⟩
/-- the slots in plain sight -/
theorem nrm {t : TS} {D : Ends} {σ σ' : L2.St} {H : Hp} (e : σ = σ') (h : t D σ' H) : t D σ H := by
  rw [e]
  exact h
/-- [a, b][k % 2] + x -/
theorem ev_joinEl {ki xi : Nat} {a b x : Str} {i : Nat} {v1 v2 : V} (e1 : (dI K (i : Int)).p v1 B) (e2 : (dS K x).p v2 B) (h1 : σ[ki]? = some (some v1)) (h2 : σ[xi]? = some (some v2)) (ha : a.length ≤ 1000) (hb : b.length ≤ 1000) (hx : x.length ≤ 1000) :
    Ev w n n (tOp (fun x y H Q => ∃ i j, x = V.str i ∧ y = V.str j ∧ i.length + j.length ≤ sizeLine ∧ Q (.str (i ++ j)) H) (tOp (rIxL K) (tLst (tCons (tC (.str a)) (tCons (tC (.str b)) tNil))) (tOp (L2.rI (fun _ j => j ≠ 0) fun i j => .int (i.fmod j)) (tVar ki) (tC (.int 2)))) (tVar xi)) σ B (dS K ((if i % 2 = 0 then a else b) ++ x)) := by
  refine ev_op (ev_op (ev_lst (K := K) (ea_cons (ev_str (K := K)) (ea_cons (ev_str (K := K)) ea_nil))) (ev_op (ev_var h1 e1) (ev_int (K := K)) (rv_Ii (by decide))) (rv_ixL ?atq)) (ev_var h2 e2) (rv_addS ?len)
  case atq =>
    rw [Int.fmod_eq_emod_of_nonneg _ (by decide)]
    by_cases e : i % 2 = 0
    · have z : (i : Int) % 2 = 0 := by omega
      rw [z, if_pos e]
      exact atI_zero _ _
    · have z : (i : Int) % 2 = ((1 : Nat) : Int) := by omega
      rw [z, if_neg e, atI_nat (show 1 < 2 from by decide)]
      rfl
  case len =>
    by_cases e : i % 2 = 0
    · rw [if_pos e]
      omega
    · rw [if_neg e]
      omega
end
def GHand (K : PySem.W.Frag) : List Pr → Pr → Prop := fun Ps P => Ps = [] ∧ P = dB K true
theorem scHand : FnScope ["_law_wrong_so", "_law_three_so", "_law_got", "_law_due", "_law_twice_so", "_law_eight_so", "_law_far", "_law_text_so", "_law_every_so", "_law_rows", "_law_own", "_law_k"] [] (defScope (top 73)) := ⟨rfl, rfl, rfl, by decide +kernel, rfl, by decide +kernel, by decide +kernel⟩
def got1 : List PyData := [orNone [0, 2, 3], .none, .none, .none]
def got2 : List PyData := got1 ++ [.bool true, .bool false, .bool false, .bool false, .bool false, .bool false]
def got3 : List PyData := got2 ++ [orNone [0, 1], .bool true, .bool false]
def got4 : List PyData := got3 ++ [.str txt, .str txt, orNone (List.range 9)]
section
variable {P : Program} {w : World} {K : PySem.W.Frag} {mg : Str → Option Value} {base : Heap}
theorem got4_fine : Pk.fine (.list got4) ∧ lev (.list got4) ≤ 2 := by
  have h : ∀ d ∈ got4, nice d 1 := by
    intro d hd
    unfold got4 got3 got2 got1 at hd
    simp only [List.mem_append, List.mem_cons, List.not_mem_nil, or_false, List.cons_append, List.nil_append] at hd
    have hi : ∀ ks : List Nat, ks.length ≤ 90000 → nice (orNone ks) 1 := eInts_nice
    have hn : nice .none 1 := ⟨rfl, trivial, Nat.zero_le _⟩
    rcases hd with rfl | rfl | rfl | rfl | rfl | rfl | rfl | rfl | rfl | rfl | rfl | rfl | rfl | rfl | rfl | rfl <;> first | exact hn | exact nice_bool _ _ | exact nice_str _ _ | exact hi _ (by decide)
  have z := nice_lst id (n := 1) (xs := got4) h (by decide)
  rw [List.map_id] at z
  refine ⟨⟨z.nd, z.wd, ?_⟩, z.lv⟩
  decide +kernel
theorem calHand (T : Txt K mg) (I : TxI K) : Cal P w K mg base 14 "_law_by_hand_right" [] (spF (GHand K)) := by
  obtain ⟨fd, F⟩ := T.f_law_by_hand_right
  have C_refuting := (calRef (P := P) (w := w) (base := base) T 3).mono (k := 13) (by omega)
  have C_one_fitting := (calOneF (P := P) (w := w) (base := base) T 3).mono (k := 13) (by omega)
  have C_is_refuting := (calIsRef (P := P) (w := w) (base := base) T 3).mono (k := 13) (by omega)
  have C_law_same := (calSame (P := P) (w := w) (base := base) T 2).mono (k := 13) (by omega)
  have C_law_all := (calAll (P := P) (w := w) (base := base) T).mono (k := 13) (by omega)
  have C_law_case_right := (calCase (P := P) (w := w) (base := base) T I).mono (k := 13) (by omega)
  have Q_Roll_text := (propTextR (P := P) (w := w) (base := base) T).mono (k := 12) (by omega)
  refine cal_of (k := 13) F T.g_law_by_hand_right scHand (fun Ps P ⟨e, _⟩ => by rw [e] <;> rfl) (fun _ _ _ _ _ _ us hl => match us, hl with | [], _ => rfl) fun cdv A o s H E hr => ?_
  refine ⟨_, (pss_cons (ps_set (i := 0) scHand.nd rfl (by first | exact Or.inl rfl | exact Or.inr rfl) (pe_tup (pa_cons (pe_tup (pa_cons (pe_tup (pa_cons pe_str pa_nil)) (pa_cons pe_str pa_nil))) (pa_cons (pe_tup (pa_cons (pe_tup (pa_cons pe_str pa_nil)) (pa_cons pe_str pa_nil))) (pa_cons (pe_tup (pa_cons (pe_tup (pa_cons pe_str pa_nil)) (pa_cons pe_str pa_nil))) (pa_cons (pe_tup (pa_cons (pe_tup (pa_cons pe_str (pa_cons pe_str pa_nil))) (pa_cons pe_str pa_nil))) pa_nil))))))
    (pss_cons (ps_set (i := 1) scHand.nd rfl (by first | exact Or.inl rfl | exact Or.inr rfl) (pe_tup (pa_cons pe_str (pa_cons pe_str (pa_cons pe_str pa_nil)))))
    (pss_cons (ps_set (i := 2) scHand.nd rfl (by first | exact Or.inl rfl | exact Or.inr rfl) (pe_lst (pa_cons (pe_cal C_refuting hr (pa_cons (pv 1) (pa_cons (pv 0) pa_nil))) (pa_cons (pe_cal C_refuting hr (pa_cons (pv 1) (pa_cons (pe_slice (ks_tup (K := K) rfl) (pv 0) po_none (po_some pe_int)) pa_nil))) (pa_cons (pe_cal C_refuting hr (pa_cons (pv 1) (pa_cons (pe_tup pa_nil) pa_nil))) (pa_cons (pe_cal C_one_fitting hr (pa_cons (pv 1) (pa_cons (pv 0) pa_nil))) pa_nil))))))
    (pss_cons (ps_set (i := 3) scHand.nd rfl (by first | exact Or.inl rfl | exact Or.inr rfl) (pe_lst (pa_cons (pe_tup (pa_cons pe_int (pa_cons pe_int (pa_cons pe_int pa_nil)))) (pa_cons pe_non (pa_cons pe_non (pa_cons pe_non pa_nil))))))
    (pss_cons (ps_set (i := 2) scHand.nd rfl (by first | exact Or.inl rfl | exact Or.inr rfl) (pe_op op_cat (pv 2) (pe_lc (own := [("_law_own", 10)]) (by rfl) scHand.nd (kp_tup (K := K) rfl (pe_tup (pa_cons (pe_tup (pa_cons pe_int (pa_cons pe_int (pa_cons pe_int pa_nil)))) (pa_cons (pe_tup (pa_cons pe_int (pa_cons pe_int pa_nil))) (pa_cons (pe_tup (pa_cons pe_int (pa_cons pe_int (pa_cons pe_int (pa_cons pe_int pa_nil))))) (pa_cons (pe_tup pa_nil) (pa_cons (pe_tup (pa_cons pe_int (pa_cons pe_int (pa_cons pe_int pa_nil)))) (pa_cons (pe_lst (pa_cons pe_int (pa_cons pe_int (pa_cons pe_int pa_nil)))) pa_nil)))))))) (blkOk_by (by kernel_rfl)) (fun _ _ _ _ _ => (pg_name (i := 10) scHand.nd rfl (by first | exact Or.inl rfl | exact Or.inr rfl))) (fun _ _ _ _ _ => pts_nil) (fun _ _ _ _ _ => (pe_cal C_is_refuting hr (pa_cons (pv 1) (pa_cons (pv 0) (pa_cons (pv 10) pa_nil))))))))
    (pss_cons (ps_set (i := 3) scHand.nd rfl (by first | exact Or.inl rfl | exact Or.inr rfl) (pe_op op_cat (pv 3) (pe_lst (pa_cons pe_bl (pa_cons pe_bl (pa_cons pe_bl (pa_cons pe_bl (pa_cons pe_bl (pa_cons pe_bl pa_nil)))))))))
    (pss_cons (ps_set (i := 4) scHand.nd rfl (by first | exact Or.inl rfl | exact Or.inr rfl) (pe_tup (pa_cons (pe_tup (pa_cons (pe_tup (pa_cons pe_str pa_nil)) (pa_cons pe_str pa_nil))) (pa_cons (pe_tup (pa_cons (pe_tup (pa_cons pe_str pa_nil)) (pa_cons pe_str pa_nil))) (pa_cons (pe_tup (pa_cons (pe_tup (pa_cons pe_str (pa_cons pe_str pa_nil))) (pa_cons pe_str pa_nil))) (pa_cons (pe_tup (pa_cons (pe_tup (pa_cons pe_str (pa_cons pe_str pa_nil))) (pa_cons pe_str pa_nil))) pa_nil))))))
    (pss_cons (ps_set (i := 2) scHand.nd rfl (by first | exact Or.inl rfl | exact Or.inr rfl) (pe_op op_cat (pv 2) (pe_lst (pa_cons (pe_cal C_refuting hr (pa_cons (pv 1) (pa_cons (pv 4) pa_nil))) (pa_cons (pe_cal C_is_refuting hr (pa_cons (pv 1) (pa_cons (pv 4) (pa_cons (pe_tup (pa_cons pe_int (pa_cons pe_int pa_nil))) pa_nil)))) (pa_cons (pe_cal C_is_refuting hr (pa_cons (pv 1) (pa_cons (pv 4) (pa_cons (pe_tup (pa_cons pe_int (pa_cons pe_int (pa_cons pe_int (pa_cons pe_int pa_nil))))) pa_nil)))) pa_nil))))))
    (pss_cons (ps_set (i := 3) scHand.nd rfl (by first | exact Or.inl rfl | exact Or.inr rfl) (pe_op op_cat (pv 3) (pe_lst (pa_cons (pe_tup (pa_cons pe_int (pa_cons pe_int pa_nil))) (pa_cons pe_bl (pa_cons pe_bl pa_nil))))))
    (pss_cons (ps_set (i := 5) scHand.nd rfl (by first | exact Or.inl rfl | exact Or.inr rfl) (pe_callTy (call_tupStr rfl) (by rfl) T.m_tuple (by decide +kernel) (pa_cons pe_str pa_nil)))
    (pss_cons (ps_set (i := 6) scHand.nd rfl (by first | exact Or.inl rfl | exact Or.inr rfl) (pe_callTy (kc_tup (K := K) rfl) (by rfl) T.m_tuple (by decide +kernel) (pa_cons (pe_lc (own := [("_law_k", 11)]) (by rfl) scHand.nd (pi_range1 (by rfl) T.m_range (pa_cons pe_int pa_nil)) (blkOk_by (by kernel_rfl)) (fun _ _ _ _ _ => (pg_name (i := 11) scHand.nd rfl (by first | exact Or.inl rfl | exact Or.inr rfl))) (fun _ _ _ _ _ => pts_nil) (fun _ _ _ _ _ => (pe_tup (pa_cons (pe_slice (ks_tup (K := K) rfl) (pv 5) (po_some (pv 11)) po_none) (pa_cons (pe_ifExp (pt_cmpR op_eq (pe_op op_modN (pv 11) pe_int) pe_int (nomark _)) pe_str pe_str) pa_nil))))) pa_nil)))
    (pss_cons (ps_set (i := 2) scHand.nd rfl (by first | exact Or.inl rfl | exact Or.inr rfl) (pe_op op_cat (pv 2) (pe_lst (pa_cons (pe_prp Q_Roll_text hr (pe_cal C_one_fitting hr (pa_cons (pv 5) (pa_cons (pv 6) pa_nil)))) (pa_cons (pe_prp Q_Roll_text hr (pe_cal C_one_fitting hr (pa_cons (pv 5) (pa_cons (pe_revT (K := K) rfl (pv 6)) pa_nil)))) (pa_cons (pe_cal C_refuting hr (pa_cons (pv 5) (pa_cons (pe_op (ko_catT (K := K) rfl) (pv 6) (pe_tup (pa_cons (pe_op (ko_catT (K := K) rfl) (pe_slice (ks_tup (K := K) rfl) (pe_ix (kx_tup (K := K) rfl) (pv 6) pe_int (fun _ _ => rfl)) po_none (po_some pe_int)) (pe_tup (pa_cons pe_str pa_nil))) pa_nil))) pa_nil))) pa_nil))))))
    (pss_cons (ps_set (i := 7) scHand.nd rfl (by first | exact Or.inl rfl | exact Or.inr rfl) (ke_join (K := K) rfl (pe_join pe_str (pe_lc (own := [("_law_k", 11), ("_law_own", 10)]) (by rfl) scHand.nd (pi_enumS (by rfl) T.m_enumerate (pa_cons pe_str pa_nil)) (blkOk_by (by kernel_rfl)) (fun _ _ _ _ _ => (kg_tup (K := K) (n := 2) rfl rfl (pgs_cons (pg_name (i := 11) scHand.nd rfl (by first | exact Or.inl rfl | exact Or.inr rfl)) (pgs_cons (pg_name (i := 10) scHand.nd rfl (by first | exact Or.inl rfl | exact Or.inr rfl)) pgs_nil)))) (fun _ _ _ _ _ => pts_nil) (fun _ _ _ _ _ => (pe_op op_add_str (pe_ix (kx_list (K := K) rfl) (pe_lst (pa_cons pe_str (pa_cons pe_str pa_nil))) (pe_op op_modN (pv 11) pe_int) (fun _ _ => rfl)) (pv 10)))))))
    (pss_cons (ps_if (pt_not (pt_val (pe_cal C_law_same hr (pa_cons (pv 2) (pa_cons (pe_op op_cat (pv 3) (pe_lst (pa_cons (pv 7) (pa_cons (pv 7) (pa_cons (pe_callTy (kc_tup (K := K) rfl) (by rfl) T.m_tuple (by decide +kernel) (pa_cons (pe_listRg rfl (by rfl) T.m_list (prg_1 (by rfl) T.m_range pe_int)) pa_nil)) pa_nil))))) pa_nil))))) (pss_one (ps_ret pe_bl)) pss_nil)
    (pss_cons (ps_set (i := 8) scHand.nd rfl (by first | exact Or.inl rfl | exact Or.inr rfl) (pe_cal C_law_all hr (pa_cons (pv 1) pa_nil)))
    (pss_cons (ps_set (i := 9) scHand.nd rfl (by first | exact Or.inl rfl | exact Or.inr rfl) (pe_lst (pa_cons (pv 0) (pa_cons (pe_slice (ks_tup (K := K) rfl) (pv 0) po_none (po_some pe_int)) (pa_cons (pv 4) (pa_cons (pe_tup pa_nil) (pa_cons (pe_tup (pa_cons (pe_tup (pa_cons (pe_tup (pa_cons pe_str (pa_cons pe_str pa_nil))) (pa_cons pe_str pa_nil))) (pa_cons (pe_tup (pa_cons (pe_tup (pa_cons pe_str (pa_cons pe_str pa_nil))) (pa_cons pe_str pa_nil))) (pa_cons (pe_tup (pa_cons (pe_tup (pa_cons pe_str (pa_cons pe_str pa_nil))) (pa_cons pe_str pa_nil))) pa_nil)))) pa_nil)))))))
    (pss_one (ps_ret (pe_and (pe_cmpR op_eq (pe_callB (kc_len (K := K) rfl) (by rfl) T.m_len PySem.boot_len (pa_cons (pv 8) pa_nil)) pe_int (nomark _)) (pe_one (pe_callB (kc_all (K := K) rfl rfl) (by rfl) T.m_all (by decide +kernel) (pa_cons (pe_lc (own := [("_law_own", 10)]) (by rfl) scHand.nd (kp_list (K := K) rfl (pv 9)) (blkOk_by (by kernel_rfl)) (fun _ _ _ _ _ => (pg_name (i := 10) scHand.nd rfl (by first | exact Or.inl rfl | exact Or.inr rfl))) (fun _ _ _ _ _ => pts_nil) (fun _ _ _ _ _ => (pe_cal C_law_case_right hr (pa_cons (pv 1) (pa_cons (pv 8) (pa_cons (pv 10) pa_nil)))))) pa_nil)))))))))))))))))))))), ?_⟩
  intro H B vs Ps P0 hs hp ⟨hP, hP0⟩ D q
  subst hP hP0
  cases hp
  have toD : ∀ {rows : List Rw} {v : V} {B : Hp}, (TuP K (rows.map fun r => DD K (eRow r))).p v B → (DD K (eRows rows)).p v B := fun h => map_tt (f := eRow) h
  refine q_asg (i := 0) (m := 0) (P := TuP K (wrong.map fun r => DD K (eRow r))) (at0 hs) (ev_tup (K := K) (ea_cons ev_rowA (ea_cons ev_rowA (ea_cons ev_rowA (ea_cons ev_rowB ea_nil))))) fun wv B1 H1 t1 s1 hw => ?_
  refine q_asg (i := 1) (m := 0) (P := TuP K (three.map (dS K))) t1 (ev_tup (K := K) (ea_cons (ev_str (K := K)) (ea_cons (ev_str (K := K)) (ea_cons (ev_str (K := K)) ea_nil)))) fun tv B2 H2 t2 s2 ht => ?_
  have hw2 := Pr.up hw s2
  have w3 : ∀ {w : Wd} {n : Nat} {σ : L2.St} {B' : Hp}, σ[0]? = some (some wv) → Same B2 B' → Ev w n n (tSl (rSlA K) (tVar 0) tNoPart (tPart (tC (.int 3)))) σ B' (TuP K ((wrong.take 3).map fun r => DD K (eRow r))) := fun e s => (ev_sl (ev_var e (Pr.up hw2 s)) eo_none (eo_some (ev_int (K := K))) rs_tup).to (congrArg (TuP K) ((cut_to _ 3).trans List.map_take.symm))
  refine q_asg (i := 2) (m := 0) (P := LoP K (got1.map (DD K))) t2 (ev_lst' (K := K) (ea_cons (ev_ref (ev_var (i := 1) rfl ht) (ev_var (i := 0) rfl (toD hw2)) ok_wrong rc_wrong.r64 ref_wrong) (ea_cons (ev_ref (ev_var (i := 1) rfl ht) ((w3 rfl (Same.refl B2)).imp fun _ _ z => toD z) ok_wrong3 rc_wrong3.r64 ref_wrong3) (ea_cons (ev_ref (rows := []) (ev_var (i := 1) rfl ht) ((ev_tup (K := K) ea_nil).imp fun _ _ z => tt_dd (ds := []) z) ok_none rc_none.r64 ref_none) (ea_cons ((ev_one (ev_var (i := 1) rfl ht) (ev_var (i := 0) rfl (toD hw2)) ok_wrong rc_wrong.r64).to (one_wrong K)) ea_nil))))) fun gv B3 H3 t3 s3 hg => ?_
  refine q_asg (i := 3) (m := 0) (P := LoP K (got1.map (DD K))) t3 (ev_lst' (K := K) (ea_cons ((ev_tup (K := K) (ea_cons ev_int (ea_cons ev_int (ea_cons ev_int ea_nil)))).imp fun _ _ z => tt_dd (ds := [.int 0, .int 2, .int 3]) z) (ea_cons ev_non (ea_cons ev_non (ea_cons ev_non ea_nil))))) fun dv B4 H4 t4 s4 hd => ?_
  have hg4 := Pr.up hg s4
  have ht4 := Pr.up ht (s3.trans s4)
  have hw4 := Pr.up hw2 (s3.trans s4)
  have hcat : ∀ {ds es : List PyData}, ds.length + es.length ≤ 100000 → RV rCat (LoP K (ds.map (DD K))) (LoP K (es.map (DD K))) (LoP K ((ds ++ es).map (DD K))) := fun {ds es} h => by
    rw [List.map_append]
    exact rv_cat (by rw [List.length_map, List.length_map]; exact h)
  refine q_asg (i := 2) (m := 0) (P := LoP K (got2.map (DD K))) t4 (Ev.z (n := 0) (m := 0 + six.length * 0) (ev_op (ev_var (i := 2) rfl hg4) (P2 := LoP K (([.bool true, .bool false, .bool false, .bool false, .bool false, .bool false] : List PyData).map (DD K))) (ev_lc1 (K := K) (c := 0) (xs := six) (fun p => dB K p.2) (es_tup (Y := fun p => DD K p.1) (ev_tup (K := K) (ea_cons ((ev_tup (K := K) (ea_cons ev_int (ea_cons ev_int (ea_cons ev_int ea_nil)))).imp fun _ _ z => tt_dd (ds := [.int 0, .int 2, .int 3]) z) (ea_cons ((ev_tup (K := K) (ea_cons ev_int (ea_cons ev_int ea_nil))).imp fun _ _ z => tt_dd (ds := [.int 0, .int 3]) z) (ea_cons ((ev_tup (K := K) (ea_cons ev_int (ea_cons ev_int (ea_cons ev_int (ea_cons ev_int ea_nil))))).imp fun _ _ z => tt_dd (ds := [.int 0, .int 1, .int 2, .int 3]) z) (ea_cons ((ev_tup (K := K) ea_nil).imp fun _ _ z => tt_dd (ds := []) z) (ea_cons ((ev_tup (K := K) (ea_cons ev_int (ea_cons ev_int (ea_cons ev_int ea_nil)))).imp fun _ _ z => tt_dd (ds := [.int 2, .int 0, .int 3]) z) (ea_cons ((ev_lst (K := K) (ea_cons ev_int (ea_cons ev_int (ea_cons ev_int ea_nil)))).imp fun _ _ z => ll_dd (ds := [.int 0, .int 2, .int 3]) z) ea_nil)))))))).s (by decide) fun p v B5 l hpm s5 hv => ⟨_, tg_name, rfl, ev_isref (ev_var (i := 1) rfl (Pr.up ht4 s5)) (ev_var (i := 0) rfl (toD (Pr.up hw4 s5))) (ev_var (i := 10) rfl hv) ok_wrong rc_wrong.r64 (six_ok p hpm)⟩) (hcat (by decide)))) fun gv2 B5 H5 t5 s5 hg2 => ?_
  refine q_asg (i := 3) (m := 0) (P := LoP K (got2.map (DD K))) t5 (ev_op (ev_var (i := 3) rfl (Pr.up hd s5)) (P2 := LoP K (([.bool true, .bool false, .bool false, .bool false, .bool false, .bool false] : List PyData).map (DD K))) (ev_lst' (K := K) (ea_cons ev_bl (ea_cons ev_bl (ea_cons ev_bl (ea_cons ev_bl (ea_cons ev_bl (ea_cons ev_bl ea_nil))))))) (hcat (by decide))) fun dv2 B6 H6 t6 s6 hd2 => ?_
  refine nrm (σ' := [some wv, some tv, some gv2, some dv2, none, none, none, none, none, none, none, none]) rfl ?_
  refine q_asg (i := 4) (m := 0) (P := TuP K (twice.map fun r => DD K (eRow r))) t6 (ev_tup (K := K) (ea_cons ev_rowA (ea_cons ev_rowA (ea_cons ev_rowB (ea_cons ev_rowB ea_nil))))) fun uv B7 H7 t7 s7 hu => ?_
  have ht7 := Pr.up ht4 ((s5.trans s6).trans s7)
  refine q_asg (i := 2) (m := 0) (P := LoP K (got3.map (DD K))) t7 (ev_op (ev_var (i := 2) rfl (Pr.up hg2 (s6.trans s7))) (P2 := LoP K (([orNone [0, 1], .bool true, .bool false] : List PyData).map (DD K))) (ev_lst' (K := K) (ea_cons (ev_ref (ev_var (i := 1) rfl ht7) (ev_var (i := 4) rfl (toD hu)) ok_twice rc_twice.r64 ref_twice) (ea_cons (ev_isref (ev_var (i := 1) rfl ht7) (ev_var (i := 4) rfl (toD hu)) ((ev_tup (K := K) (ea_cons ev_int (ea_cons ev_int ea_nil))).imp fun _ _ z => tt_dd (ds := [.int 0, .int 1]) z) ok_twice rc_twice.r64 (.inr (.inr ⟨[0, 1], rfl, by decide, tw1.symm⟩))) (ea_cons (ev_isref (ev_var (i := 1) rfl ht7) (ev_var (i := 4) rfl (toD hu)) ((ev_tup (K := K) (ea_cons ev_int (ea_cons ev_int (ea_cons ev_int (ea_cons ev_int ea_nil))))).imp fun _ _ z => tt_dd (ds := [.int 0, .int 1, .int 2, .int 3]) z) ok_twice rc_twice.r64 (.inr (.inr ⟨[0, 1, 2, 3], rfl, by decide, tw2.symm⟩))) ea_nil)))) (hcat (by decide))) fun gv3 B8 H8 t8 s8 hg3 => ?_
  refine q_asg (i := 3) (m := 0) (P := LoP K (got3.map (DD K))) t8 (ev_op (ev_var (i := 3) rfl (Pr.up hd2 (s7.trans s8))) (P2 := LoP K (([orNone [0, 1], .bool true, .bool false] : List PyData).map (DD K))) (ev_lst' (K := K) (ea_cons ((ev_tup (K := K) (ea_cons ev_int (ea_cons ev_int ea_nil))).imp fun _ _ z => tt_dd (ds := [.int 0, .int 1]) z) (ea_cons ev_bl (ea_cons ev_bl ea_nil)))) (hcat (by decide))) fun dv3 B9 H9 t9 s9 hd3 => ?_
  refine nrm (σ' := [some wv, some tv, some gv3, some dv3, some uv, none, none, none, none, none, none, none]) rfl ?_
  refine q_asg (i := 5) (m := 0) (P := TuP K (eight.map (dS K))) t9 ((ev_cb (ea_cons (ev_str (K := K)) ea_nil) (rc_tupS (by decide +kernel))).to (by rw [signs_eight])) fun ev B10 H10 t10 s10 he => ?_
  refine q_asg (i := 6) (m := 0) (P := TuP K (farR.map fun r => DD K (eRow r))) t10 (Ev.z (n := 0) (m := 0 + (List.range 8).length * 0) (ev_cb (ea_cons (ev_lo ((ev_lc1 (K := K) (c := 0) (xs := List.range 8) (fun k => DD K (eRow (eight.drop k, farK k))) (es_rng (K := K) (j := 8) (ea_cons ev_int ea_nil) (by decide)).s (by decide) ?far).to (P' := LoP K (farR.map fun r => DD K (eRow r))) (by unfold farR; rw [List.map_map] <;> rfl))) ea_nil) rc_tupL)) fun fv B11 H11 t11 s11 hf => ?_
  case far =>
    intro k v B11 l hk s11 hv
    refine ⟨_, tg_name, rfl, (ev_tup (K := K) (ea_cons (((ev_sl (ev_var (i := 5) rfl (Pr.up he s11)) (eo_some (ev_var (i := 11) rfl hv)) eo_none rs_tup).to (P' := TuP K ((eight.drop k).map (dS K))) (congrArg (TuP K) ((cut_from _ k).trans List.map_drop.symm))).imp fun _ _ z => map_tt (f := PyData.str) z) (ea_cons (P := dS K (farK k)) ?kind ea_nil))).imp fun _ _ z => tt_dd (ds := [eTS (eight.drop k), .str (farK k)]) z⟩
    refine (ev_if (m := l) (b := decide (k % 2 = 0)) (et_test (K := K) ((ev_op (ev_op (ev_var (i := 11) rfl hv) (ev_int (K := K)) (rv_Ii (by decide))) (ev_int (K := K)) rv_eqI).to (congrArg (dB K) (decide_eq_decide.mpr (by rw [Int.fmod_eq_emod_of_nonneg _ (by decide)]; omega))))) (fun hb => ?_) fun hb => ?_)
    · have e : farK k = "sum" := if_pos (of_decide_eq_true hb)
      rw [e]
      exact ev_str
    · have e : farK k = "max" := if_neg (of_decide_eq_false hb)
      rw [e]
      exact ev_str
  have he11 := Pr.up he s11
  have hg11 := Pr.up hg3 ((s9.trans s10).trans s11)
  have hd11 := Pr.up hd3 (s10.trans s11)
  have ht11 := Pr.up ht7 (((s8.trans s9).trans s10).trans s11)
  have hw11 := Pr.up hw4 ((((((s5.trans s6).trans s7).trans s8).trans s9).trans s10).trans s11)
  have hu11 := Pr.up hu (((s8.trans s9).trans s10).trans s11)
  have r64f : ∀ r ∈ farR, r.1.length ≤ 64 := by decide +kernel
  have r64v : ∀ r ∈ farR.reverse, r.1.length ≤ 64 := by decide +kernel
  have r64n : ∀ r ∈ nine, r.1.length ≤ 64 := by decide +kernel
  refine q_asg (i := 2) (m := 0) (P := LoP K (got4.map (DD K))) t11 (ev_op (ev_var (i := 2) rfl hg11) (P2 := LoP K (([.str txt, .str txt, orNone (List.range 9)] : List PyData).map (DD K))) (ev_lst' (K := K) (ea_cons (ev_oneText (ev_one (ev_var (i := 5) rfl he11) (ev_var (i := 6) rfl (toD hf)) ok_far r64f) ok_far far_all (by decide) far_text) (ea_cons (ev_oneText (ev_one (ev_var (i := 5) rfl he11) (((ev_revT (ev_var (i := 6) rfl hf)).to (P' := TuP K (farR.reverse.map fun r => DD K (eRow r))) (by rw [List.map_reverse])).imp fun _ _ z => toD z) ok_farv r64v) ok_farv farv_all (by decide) farv_text) (ea_cons (ev_ref (ev_var (i := 5) rfl he11) ?nines ok_nine r64n ref_nine) ea_nil)))) (hcat (by decide))) fun gv4 B12 H12 t12 s12 hg4 => ?_
  case nines =>
    refine ((ev_op (ev_var (i := 6) rfl hf) (P2 := TuP K [DD K (eRow lastR)]) (ev_tup (K := K) (ea_cons ((ev_op (P1 := TuP K [DD K (eTS (eight.drop 0))]) (P2 := TuP K [dS K "max"]) ((ev_sl (ev_ddt (ds := [eTS (eight.drop 0), .str (farK 0)]) (ev_op (ev_var (i := 6) rfl hf) (ev_int (K := K)) (rv_ixT (P := DD K (eRow (eight.drop 0, farK 0))) (atI_zero _ _)))) eo_none (eo_some (ev_int (K := K))) rs_tup).to (congrArg (TuP K) (cut_to _ 1))) (ev_tup (K := K) (ea_cons (ev_str (K := K)) ea_nil)) (rv_catT (by simp))).imp fun _ _ z => tt_dd (ds := [eTS eight, .str "max"]) z) ea_nil)) (rv_catT (by rw [List.length_map]; exact Nat.le_of_ble_eq_true rfl))).to (P' := TuP K (nine.map fun r => DD K (eRow r))) (by unfold nine; rw [List.map_append] <;> rfl)).imp fun _ _ z => toD z
  refine nrm (σ' := [some wv, some tv, some gv4, some dv3, some uv, some ev, some fv, none, none, none, none, none]) rfl ?_
  refine q_asg (i := 7) (m := 0) (P := dS K txt) t12 (Ev.z (n := 0) (m := 0 + ((List.range (signs "hgfedcba").length).zip (signs "hgfedcba")).length * 0) ((ev_join (ys := ((List.range (signs "hgfedcba").length).zip (signs "hgfedcba")).map fun p => (if p.1 % 2 = 0 then ("max " : Str) else "sum ") ++ p.2) (ev_str (K := K)) ((ev_lo (ev_lc1 (K := K) (c := 0) (fun p : Nat × Str => dS K ((if p.1 % 2 = 0 then ("max " : Str) else "sum ") ++ p.2)) (es_enumS (K := K) (ea_cons (ev_str (K := K)) ea_nil)).s (by decide +kernel) ?join)).to (P' := LiP K ((((List.range (signs "hgfedcba").length).zip (signs "hgfedcba")).map fun p => (if p.1 % 2 = 0 then ("max " : Str) else "sum ") ++ p.2).map (dS K))) (by rw [List.map_map] <;> rfl)) (by decide +kernel)).to (by rw [join_text]))) fun xv B13 H13 t13 s13 hx => ?_
  case join =>
    intro p v B13 l hp s13 hv
    obtain ⟨pa, v1, v2, rfl, hT, e1, e2⟩ := two_of hv
    have h1 : ∀ x ∈ signs "hgfedcba", x.length ≤ 1 := by decide +kernel
    have h2 := h1 p.2 (List.of_mem_zip hp).2
    exact ⟨_, tg_two hT, rfl, ev_joinEl (a := "max ") (b := "sum ") e1 e2 rfl rfl (by decide +kernel) (by decide +kernel) (Nat.le_trans h2 (by decide))⟩
  have hg13 := Pr.up hg4 s13
  have hd13 := Pr.up hd11 (s12.trans s13)
  have e9 : orNone (List.range 9) = .tuple ((List.range 9).map fun k : Nat => .int (k : Int)) := rfl
  refine q_no (m := 0) t13 ((et_not (et_test (K := K) (ev_fn (ea_cons (ev_lod (ds := got4) (ev_var (i := 2) rfl hg13)) (ea_cons (ev_lod (ds := got4) (ev_op (ev_var (i := 3) rfl hd13) (P2 := LoP K (([.str txt, .str txt, orNone (List.range 9)] : List PyData).map (DD K))) (ev_lst' (K := K) (ea_cons (ev_var (i := 7) rfl hx) (ea_cons (ev_var (i := 7) rfl hx) (ea_cons (P := DD K (orNone (List.range 9))) ((ev_cb (ea_cons (ev_lo (ev_listRg (K := K) (j := 9) (ev_int (K := K)) (by decide))) ea_nil) rc_tupL).imp fun v B' hv => by rw [e9]; exact map_tt (f := fun k : Nat => PyData.int (k : Int)) hv) ea_nil)))) (hcat (by decide)))) ea_nil)) ⟨_, rfl, got4_fine.1, got4_fine.2, rfl⟩))).to rfl) fun B14 H14 t14 s14 => ?_
  have ht14 := Pr.up ht11 ((s12.trans s13).trans s14)
  refine nrm (σ' := [some wv, some tv, some gv4, some dv3, some uv, some ev, some fv, some xv, none, none, none, none]) rfl ?_
  refine q_asg (i := 8) (m := 0) (P := LoP K ((everyF three).map fun t => DD K (eTL t))) t14 (ev_fn (ea_cons (ev_var (i := 1) rfl ht14) ea_nil) ⟨three, rfl, by decide +kernel, by decide, fun x hx => (okTag3 x hx).2, rfl⟩) fun yv B15 H15 t15 s15 hy => ?_
  have s1115 := ((s12.trans s13).trans s14).trans s15
  have hw15 := Pr.up hw11 s1115
  have hu15 := Pr.up hu11 s1115
  have ht15 := Pr.up ht14 s15
  refine q_asg (i := 9) (m := 0) (P := LoP K (([wrong, wrong.take 3, twice, [], ringR] : List (List Rw)).map fun R => DD K (eRows R))) t15 (ev_lst' (K := K) (ea_cons (ev_var (i := 0) rfl (toD hw15)) (ea_cons ((w3 rfl ?grow).imp fun _ _ z => toD z) (ea_cons (ev_var (i := 4) rfl (toD hu15)) (ea_cons ((ev_tup (K := K) ea_nil).imp fun _ _ z => tt_dd (ds := []) z) (ea_cons (((ev_tup (K := K) (ea_cons ev_rowB (ea_cons ev_rowB (ea_cons ev_rowB ea_nil)))).to (P' := TuP K (ringR.map fun r => DD K (eRow r))) rfl).imp fun _ _ z => toD z) ea_nil)))))) fun rv B16 H16 t16 s16 hrv => ?_
  case grow => exact (((((((((s3.trans s4).trans s5).trans s6).trans s7).trans s8).trans s9).trans s10).trans s11).trans s1115)
  refine nrm (σ' := [some wv, some tv, some gv4, some dv3, some uv, some ev, some fv, some xv, some yv, some rv, none, none]) rfl ?_
  refine s_ret (m := 0) (P := dB K true) t16 (Ev.z (n := 0) (m := 0 + ([wrong, wrong.take 3, twice, [], ringR] : List (List Rw)).length * 0) ((ev_andV (K := K) (a := true) (b := true) ((ev_op (ev_cb (ea_cons (ev_lo (ev_var (i := 8) rfl (Pr.up hy s16))) ea_nil) rc_lenL) (ev_int (K := K)) rv_eqI).to (congrArg (dB K) (by rw [List.length_map, every_26] <;> rfl))) fun _ => (ev_cb (ea_cons (ev_lo ((ev_lc1 (K := K) (c := 0) (xs := ([wrong, wrong.take 3, twice, [], ringR] : List (List Rw))) (fun _ => dB K true) (es_list (Y := fun R => DD K (eRows R)) (ev_lo (ev_var (i := 9) rfl hrv))).s (by decide) ?each).to (P' := LoP K (([true, true, true, true, true] : List Bool).map (dB K))) rfl)) ea_nil) rc_all)))) fun v B' H' a s hv => q _ v B' H' a hv
  case each =>
    intro R v B17 l hR s17 hv
    refine ⟨_, tg_name, rfl, ev_fn (ea_cons (ev_var (i := 1) rfl (Pr.up ht15 (s16.trans s17))) (ea_cons (ev_lo (ev_var (i := 8) rfl (Pr.up hy (s16.trans s17)))) (ea_cons (ev_var (i := 10) rfl (tt_rows hv)) ea_nil))) ⟨three, R, rfl, ?_, rfl⟩⟩
    simp only [List.mem_cons, List.not_mem_nil, or_false] at hR
    rcases hR with rfl | rfl | rfl | rfl | rfl
    · exact rc_wrong
    · exact rc_wrong3
    · exact rc_twice
    · exact rc_none
    · exact rc_ring
end
end Pk


set_option Elab.async false
set_option linter.all false
set_option maxRecDepth 100000
set_option maxHeartbeats 4000000
/-! PkF31: _law_right, law. -/
namespace Pk
open PySem PySem.Spec PyProof.Rows L2 PkH PySem.W
def okTags (ts : List Str) : Prop := ts.Nodup ∧ 1 ≤ ts.length ∧ ts.length ≤ 3 ∧ ∀ x ∈ ts, x ∈ tagPool
theorem okTags_sort {many : Nat} {fs : List Str} (h : picked tagPool many fs) (h1 : 1 ≤ many) (h3 : many ≤ 3) : okTags (sortS fs) := by
  obtain ⟨e, rs, p⟩ := h
  have hn : tagPool.Nodup := by decide +kernel
  have hl : tagPool.length = 12 := rfl
  have hfn : fs.Nodup := (List.nodup_append.mp (p.nodup_iff.mpr hn)).1
  refine ⟨(sortS_perm fs).nodup_iff.mpr hfn, ?_, ?_, fun x hx => p.mem_iff.mp (List.mem_append.mpr (.inl ((sortS_perm fs).mem_iff.mp hx)))⟩ <;> rw [(sortS_perm fs).length_eq] <;> omega
theorem pool_ok : ∀ x ∈ tagPool, okName x ∧ okS x := by
  unfold okName okS
  decide +kernel
theorem case_of {ts : List Str} {l : List (Str × Str)} {rows : List Rw} (ht : okTags ts) (hl : lineOf ts l) (hr : rowsOf l 6 rows) : rCase (sortS (l.map (·.2))) rows := by
  have hp : (sortS (l.map (·.2))).Perm ts := (sortS_perm _).trans hl.2
  have hlen := hp.length_eq
  have hlot : ∀ r ∈ rows, lotOf (sortS (l.map (·.2))) r.1 := fun r h => (hr.2 r h).2
  have h6 := hr.1
  have h3 := ht.2.2.1
  have h1 := ht.2.1
  refine ⟨⟨hp.nodup_iff.mpr ht.1, fun x hx => pool_ok x (ht.2.2.2 x (hp.mem_iff.mp hx)), fun r h => (hr.2 r h).1, fun r h => lotOf_sub (hlot r h), by omega, by omega⟩, by omega, fun r h e => ?_, fun r h => ?_, by omega, by omega⟩
  · obtain ⟨x, hx⟩ := lotOf_ne (hlot r h) (by omega)
    rw [e] at hx
    cases hx
  · obtain ⟨k, fs, _, hf, e⟩ := hlot r h
    have z := picked_len hf
    rw [e, (sortS_perm fs).length_eq]
    omega
def GRight (K : PySem.W.Frag) : Nat → Nat → List Pr → Pr → Prop := fun n m Ps P => Ps = [] ∧ n + 162400 ≤ 1000000 ∧ m = n + 162400 ∧ P = dB K true
theorem scRight : FnScope ["_law_urn", "_law_turn", "_law_line_so", "_law_tags_here", "_law_kind_so", "_law_own"] ["_law_urn"] (defScope (top 74)) := ⟨rfl, rfl, rfl, by decide +kernel, rfl, by decide +kernel, by decide +kernel⟩
section
variable {P : Program} {w : World} {K : PySem.W.Frag} {mg : Str → Option Value} {base : Heap}
theorem calRight (T : Txt K mg) (I : TxI K) : Cal P w K mg base 14 "_law_right" ["_law_urn"] (spU (GRight K)) := by
  have C_law_take := (calTake (P := P) (w := w) (base := base) T).mono (k := 13) (by omega)
  have C_law_of := (calOf (P := P) (w := w) (base := base) T).mono (k := 13) (by omega)
  have C_law_tags := (calTags (P := P) (w := w) (base := base) T).mono (k := 13) (by omega)
  have C_law_line := (calLine (P := P) (w := w) (base := base) T).mono (k := 13) (by omega)
  have C_law_pairs := (calPairs (P := P) (w := w) (base := base) T).mono (k := 13) (by omega)
  have C_law_all := (calAll (P := P) (w := w) (base := base) T).mono (k := 13) (by omega)
  have C_law_case_right := (calCase (P := P) (w := w) (base := base) T I).mono (k := 13) (by omega)
  obtain ⟨fd, F⟩ := T.f_law_right
  refine cal_ofU (k := 13) F T.g_law_right scRight (fun _ _ _ _ ⟨e, _⟩ => by rw [e] <;> rfl) (fun _ _ _ _ _ _ us hl => match us, hl with | [_], _ => rfl) fun cdv A o s H E hr => ?_
  refine ⟨_, (pss_cons (ps_for (passes_of rfl) rfl (pi_range1 (by rfl) T.m_range (pa_cons pe_int pa_nil)) (pg_name (i := 1) scRight.nd rfl (by first | exact Or.inl rfl | exact Or.inr rfl)) (pss_cons (ps_set (i := 2) scRight.nd rfl (by first | exact Or.inl rfl | exact Or.inr rfl) (pe_cal C_law_line hr (pa_cons (pv 0) (pa_cons (pe_cal C_law_tags hr (pa_cons (pv 0) (pa_cons (pe_op op_add pe_int (pe_cal C_law_take hr (pa_cons (pv 0) (pa_cons pe_int pa_nil)))) pa_nil))) pa_nil))))
    (pss_cons (ps_set (i := 3) scRight.nd rfl (by first | exact Or.inl rfl | exact Or.inr rfl) (pe_callTy (kc_tup (K := K) rfl) (by rfl) T.m_tuple (by decide +kernel) (pa_cons (pe_callB (kc_sortS (K := K) rfl) (by rfl) T.m_sorted (by decide +kernel) (pa_cons (pe_lc (own := [("_law_kind_so", 4), ("_law_own", 5)]) (by rfl) scRight.nd (kp_tup (K := K) rfl (pv 2)) (blkOk_by (by kernel_rfl)) (fun _ _ _ _ _ => (kg_tup (K := K) (n := 2) rfl rfl (pgs_cons (pg_name (i := 4) scRight.nd rfl (by first | exact Or.inl rfl | exact Or.inr rfl)) (pgs_cons (pg_name (i := 5) scRight.nd rfl (by first | exact Or.inl rfl | exact Or.inr rfl)) pgs_nil)))) (fun _ _ _ _ _ => pts_nil) (fun _ _ _ _ _ => (pv 5))) pa_nil)) pa_nil)))
    (pss_one (ps_if (pt_not (pt_val (pe_cal C_law_case_right hr (pa_cons (pv 3) (pa_cons (pe_cal C_law_all hr (pa_cons (pv 3) pa_nil)) (pa_cons (pe_cal C_law_pairs hr (pa_cons (pv 0) (pa_cons (pv 2) (pa_cons pe_int (pa_cons (pe_cal C_law_of hr (pa_cons (pv 0) (pa_cons (pe_lst (pa_cons pe_int (pa_cons pe_int (pa_cons pe_int pa_nil)))) pa_nil))) pa_nil))))) pa_nil)))))) (pss_one (ps_ret pe_bl)) pss_nil)))))
    (pss_one (ps_ret pe_bl))), ?_⟩
  intro H u n m B vs Ps P0 cx hp ⟨hP, hn, hm, hP0⟩ D q
  subst hP hm hP0
  cases hp
  have t0 : At (wu u).S (wu u) n B H B H := At.start cx
  refine q_for (m := n) (xs := List.range 8) (Y := fun i : Nat => dI K (i : Int)) (fun i Bs w2 k σ B => ∃ x1 x2 x3, w2 = wu u ∧ k = n + i * 20300 ∧ σ = [some (.ref u), x1, x2, x3, none, none]) t0 (es_rng (K := K) (j := 8) (ea_cons ev_int ea_nil) (by decide)) (fun B1 s1 => ⟨_, _, _, rfl, rfl, rfl⟩) ?turn ?done
  case turn =>
    rintro i x v Bs w2 k σ' B1 B2 H2 ei s1 s2 ⟨x1, x2, x3, rfl, rfl, rfl⟩ t2 s3 hv
    have hi : i < 8 := by
      have z := (List.getElem?_eq_some_iff.mp ei).1
      rwa [List.length_range] at z
    show tSeq _ _ _ _ H2
    obtain ⟨b, hb⟩ : ∃ b, b = n + i * 20300 := ⟨_, rfl⟩
    rw [← hb] at t2
    have hbb : b + 20300 ≤ 1000000 := by omega
    have hU : ∀ {n : Nat} {B' : Hp} {σ : L2.St}, σ[0]? = some (some (.ref u)) → Ev (wu u) n n (tVar 0) σ B' (VV (.ref u)) := fun e => ev_var e rfl
    refine q_asg (i := 2) (m := b + 204) (P := ExP (fun l => ∃ ts, okTags ts ∧ lineOf ts l) fun l => DD K (eLine l)) t2 ?line fun lv B3 H3 t3 s4 hl => ?_
    case line =>
      refine ev_open (m := b + 4) (Ps := [VV (.ref u), ExP okTags fun ts => DD K (eTS ts)]) (fun _ _ _ _ => rfl) (ea_cons (hU rfl) (ea_cons ?tags ea_nil)) fun vs B3 s4 hvs => ?_
      case tags =>
        refine ev_open (m := b + 1) (Ps := [VV (.ref u), ExP (fun i : Nat => i < 3) fun i : Nat => dI K ((1 + i : Nat) : Int)]) (fun _ _ _ _ => rfl) (ea_cons (hU rfl) (ea_cons (ev_op (ev_int (K := K)) (ev_fnU (u := u) (P := below K 3) inc_refl (ea_cons (hU rfl) (ea_cons (ev_int (K := K)) ea_nil)) ⟨3, rfl, by decide, by decide, by omega, rfl, rfl⟩) fun w n B x y hx ⟨i, hi, hy⟩ => (rv_I0i (g := fun i j => i + j) w n B x y hx hy).imp fun v B' _ q => ⟨i, hi, by
          show (dI K ((1 + i : Nat) : Int)).p v B'
          rw [show ((1 + i : Nat) : Int) = 1 + (i : Int) by omega]
          exact q⟩) ea_nil)) fun vs B3 s4 hvs => ?_
        obtain ⟨v1, v2, rfl, g1, g2⟩ := two_at hvs
        obtain ⟨j, hj, g2⟩ := g2
        exact ((ev_fnU (u := u) (G := GTags K) (l := b + 1 + (1 + j)) inc_refl (ea_val (.cons g1 (.cons g2 .nil))) ⟨1 + j, rfl, by omega, by omega, rfl, rfl⟩).imp (P := ExP (picked tagPool (1 + j)) fun fs => DD K (eTS (sortS fs))) (P' := ExP okTags fun ts => DD K (eTS ts)) fun v B' h => h.elim fun fs hf => ⟨sortS fs, okTags_sort hf.1 (by omega) (by omega), hf.2⟩).le (by omega)
      obtain ⟨v1, v2, rfl, g1, g2⟩ := two_at hvs
      obtain ⟨ts, hts, g2⟩ := g2
      have z3 := hts.2.2.1
      exact ((ev_fnU (u := u) (G := GLine K) (l := b + 4 + 200) inc_refl (ea_val (Ps := [VV (.ref u), TuP K (ts.map (dS K))]) (.cons g1 (.cons (tt_strs g2) .nil))) ⟨ts, rfl, by omega, by omega, rfl, rfl⟩).imp (P := ExP (lineOf ts) fun l => DD K (eLine l)) (P' := ExP (fun l => ∃ ts, okTags ts ∧ lineOf ts l) fun l => DD K (eLine l)) fun v B' h => h.elim fun l hf => ⟨l, ⟨ts, hts, hf.1⟩, hf.2⟩).le (by omega)
    obtain ⟨l, ⟨ts, hts, hlo⟩, hl⟩ := hl
    have hll : l.length = ts.length := by
      have z := hlo.2.length_eq
      rw [List.length_map] at z
      exact z
    have z3 := hts.2.2.1
    have z1 := hts.2.1
    refine q_asg (i := 3) (m := b + 204) (P := TuP K ((sortS (l.map (·.2))).map (dS K))) t3 (ev_cb (ea_cons (ev_lo (ev_cb (ea_cons (ev_lo ((Ev.le (l := b + 204) (m := b + 204 + l.length * 0) (ev_lc1 (K := K) (c := 0) (xs := l) (fun p => dS K p.2) (es_tup (ev_var (i := 2) rfl (tt_line hl))).s (by omega) fun x v B1 l hx s1 hv => ?turn0) (by omega)).to (P' := LoP K ((l.map (·.2)).map (dS K))) (by rw [List.map_map] <;> rfl))) ea_nil) (rc_sortS (by rw [List.length_map]; omega)))) ea_nil) rc_tupL) fun tv B4 H4 t4 s5 htv => ?_
    case turn0 =>
      obtain ⟨a, v1, v2, rfl, hT, e1, e2⟩ := two_ss hv
      exact ⟨_, tg_two hT, rfl, ev_var (i := 5) rfl e2⟩
    have hl4 := dd_up hl s5
    have ok0 : rCase (sortS (l.map (·.2))) [] := case_of hts hlo ⟨Nat.zero_le _, fun r h => by cases h⟩
    refine s_no (m := b + 20205) t4 ((et_not (et_test (K := K) (b := true) ?case)).to rfl) fun B5 H5 t5 s6 => ?_
    case case =>
      refine ev_open (m := b + 20205) (Ps := [TuP K ((sortS (l.map (·.2))).map (dS K)), LoP K ((everyF (sortS (l.map (·.2)))).map fun t => DD K (eTL t)), ExP (rowsOf l 6) fun rows => TuP K (rows.map fun r => DD K (eRow r))]) (fun _ _ _ _ => rfl) (ea_cons (ev_var (i := 3) rfl htv) (ea_cons (ev_fn (ea_cons (ev_var (i := 3) rfl htv) ea_nil) ⟨_, rfl, ok0.nd, ok0.t3, fun x hx => (ok0.nm x hx).2, rfl⟩) (ea_cons ?pairs ea_nil))) fun vs B5 s6 hvs => ?_
      case pairs =>
        refine ev_open (m := b + 205) (Ps := [VV (.ref u), DD K (eLine l), dI K ((6 : Nat) : Int), ExP (fun o : Nat => o ≤ 5) fun o : Nat => dI K (o : Int)]) (fun _ _ _ _ => rfl) (ea_cons (hU rfl) (ea_cons (ev_var (i := 2) rfl hl4) (ea_cons (ev_int (K := K)) (ea_cons ((ev_fnU (u := u) (G := GOf K) (l := b + 204 + 1) inc_refl (ea_cons (hU rfl) (ea_cons (ev_lst (K := K) (ea_cons (ev_int (K := K)) (ea_cons (ev_int (K := K)) (ea_cons (ev_int (K := K)) ea_nil)))) ea_nil)) ⟨_, rfl, by (show 1 ≤ 3; decide), by (show 3 ≤ 1000000; decide), by omega, rfl, rfl⟩).imp (P' := ExP (fun o : Nat => o ≤ 5) fun o : Nat => dI K (o : Int)) fun v B' ⟨P, hP, hp⟩ => ?odd) ea_nil)))) fun vs B5 s6 hvs => ?_
        case odd =>
          rcases List.mem_cons.mp hP with rfl | hP
          · exact ⟨2, by decide, hp⟩
          · rcases List.mem_cons.mp hP with rfl | hP
            · exact ⟨5, by decide, hp⟩
            · rcases List.mem_cons.mp hP with rfl | hP
              · exact ⟨0, by decide, hp⟩
              · cases hP
        cases hvs with
        | cons g1 hvs =>
        cases hvs with
        | cons g2 hvs =>
        obtain ⟨v3, v4, rfl, g3, g4⟩ := two_at hvs
        obtain ⟨odd, ho, g4⟩ := g4
        exact (ev_fnU (u := u) (G := GPairs K) (l := b + 205 + 20000) inc_refl (ea_val (.cons g1 (.cons g2 (.cons g3 (.cons g4 .nil))))) ⟨l, 6, odd, rfl, by omega, by omega, hlo.1, by decide, by omega, by omega, rfl, rfl⟩).le (by omega)
      cases hvs with
      | cons g1 hvs =>
      obtain ⟨v2, v3, rfl, g2, g3⟩ := two_at hvs
      obtain ⟨rows, hrows, g3⟩ := g3
      exact ev_fn (ea_val (Ps := [TuP K ((sortS (l.map (·.2))).map (dS K)), LiP K ((everyF (sortS (l.map (·.2)))).map fun t => DD K (eTL t)), TuP K (rows.map fun r => DD K (eRow r))]) (.cons g1 (.cons (lo_li g2) (.cons g3 .nil)))) ⟨_, rows, rfl, case_of hts hlo hrows, rfl⟩
    exact ⟨_, _, B5, t5.le (m := n + (i + 1) * 20300) (by omega), (((s2.trans s3).trans s4).trans s5).trans s6, _, _, _, rfl, rfl, rfl⟩
  case done =>
    rintro Bs w2 k σ' B1 H1 s1 s2 t1 ⟨x1, x2, x3, rfl, rfl, rfl⟩
    rw [List.length_range] at t1
    exact s_ret (m := n + 162400) (t1.le (m := n + 162400) (by omega)) (ev_bl (K := K)) fun v B' H' a s hv => q v B' H' a hv
end
end Pk


set_option Elab.async false
set_option linter.all false
set_option maxRecDepth 100000
set_option maxHeartbeats 4000000
/-! PkF32: law. -/
namespace Pk
open PySem PySem.Spec PyProof.Rows L2 PkH PySem.W
section
variable {K : PySem.W.Frag} {B : Hp} {σ : L2.St} {ta : TA}
/-- a new urn, all drawn from it: it goes out of sight -/
theorem ev_boxRight {xs : List Int} {k : Nat} {E1 E2 : XK} (h : EvA w0 0 0 ta σ B [LiP K (xs.map (dI K)), dI K (k : Int)]) (hl : xs.length ≤ 100) (hk : k ≤ 100) :
    Ev w0 0 0 (tCall (spU (GRight K)) [] E1 (tCons (tCall (spBox K) [] E2 ta) tNil)) σ B (dB K true) := fun B1 s1 H c Q q =>
  h B1 s1 H c _ fun vs B2 H2 g2 c2 hvs => by
    show spBox K (vs ++ []) H2 _ E2
    rw [List.append_nil]
    refine ⟨B2, xs, k, c2.sub, hvs, hl, hk, fun u a b B3 H3 g3 s3 hu ha => ?_⟩
    show spU (GRight K) [V.ref u] _ Q E1
    have hbu : B3 u = none := s3.free hu
    refine ⟨u, 0, 162400, B3, [], dB K true, ⟨fun x o e => ?_, fun x hx => ?_, a, b, 0, upd_same, ha, Int.le_refl _, Int.le_refl _⟩, .cons rfl .nil, ⟨rfl, by decide, rfl, rfl⟩, fun v B' H' g' c' hv => ?_⟩
    · rw [upd_ne (ne_of_none e hbu)]
      exact s3 x o e
    · rw [show x = u from hx]
      exact hbu
    have kp : ∀ x o, H2 x = some o → H' x = some o := fun x o e => by
      have e3 := g3.keep x o (fun z => z) e
      have hne : x ≠ u := fun z => Option.some_ne_none o (e3.symm.trans (by rw [z]; exact hu))
      exact g'.keep x o (fun z => hne z) (by rw [upd_ne hne]; exact e3)
    refine q v B' H' (g2.trans ⟨g3.ex.trans g'.ex, fun x o _ e => kp x o e, fun x hx => ?_, fun x hx => ?_⟩) ⟨c'.sub, fun x hx => hx.elim, True.intro⟩ hv
    · obtain ⟨o, e⟩ := ne_some hx
      rw [kp x o e]
      exact Option.some_ne_none o
    · rcases g'.fr x hx with z | z
      · exact g3.fr x z
      · have hne : x ≠ u := fun e => by
          rw [e, upd_same] at z
          cases z
        rw [upd_ne hne] at z
        refine .inr ?_
        cases e : H2 x with
        | none => rfl
        | some o =>
          have e3 := g3.keep x o (fun z => z) e
          rw [z] at e3
          cases e3
end
def GLaw (K : PySem.W.Frag) : List Pr → Pr → Prop := fun Ps P => ∃ xs : List Int, Ps = [LiP K (xs.map (dI K))] ∧ xs.length ≤ 63 ∧ P = dB K true
theorem scLaw : FnScope ["_law_script", "_law_cells_here", "_law_k"] ["_law_script"] (defScope (top 75)) := ⟨rfl, rfl, rfl, by decide +kernel, rfl, by decide +kernel, by decide +kernel⟩
section
variable {P : Program} {w : World} {K : PySem.W.Frag} {mg : Str → Option Value} {base : Heap}
theorem okLaw (T : Txt K mg) (I : TxI K) {fd : FuncData} (F : FnP K "law" "law" (top 75) (He.ga K "law") fd) : FnOk P w K mg base CX0 15 (He.ga K "law") fd ["_law_script"] (spF (GLaw K)) := by
  have C_law_by_hand_right := (calHand (P := P) (w := w) (base := base) T I)
  have C_law_right := (calRight (P := P) (w := w) (base := base) T I)
  have C_law_box := (calBox (P := P) (w := w) (base := base) T).mono (k := 14) (by omega)
  have C_law_cells := (calCells (P := P) (w := w) (base := base) T).mono (k := 14) (by omega)
  refine fn_of (k := 14) F scLaw (fun Ps P ⟨_, e, _⟩ => by rw [e] <;> rfl) fun cdv A o s H E hr => ?_
  refine ⟨_, (pss_cons (ps_if (pt_not (pt_val (pe_cal0 C_law_by_hand_right hr))) (pss_one (ps_ret pe_bl)) pss_nil)
    (pss_cons (ps_set (i := 1) scLaw.nd rfl (by first | exact Or.inl rfl | exact Or.inr rfl) (pe_cal C_law_cells hr (pa_cons (pv 0) (pa_cons pe_int pa_nil))))
    (pss_one (ps_ret (pe_callB (kc_all (K := K) rfl rfl) (by rfl) T.m_all (by decide +kernel) (pa_cons (pe_lc (own := [("_law_k", 2)]) (by rfl) scLaw.nd (pi_range1 (by rfl) T.m_range (pa_cons (pe_callB (kc_len (K := K) rfl) (by rfl) T.m_len PySem.boot_len (pa_cons (pv 1) pa_nil)) pa_nil)) (blkOk_by (by kernel_rfl)) (fun _ _ _ _ _ => (pg_name (i := 2) scLaw.nd rfl (by first | exact Or.inl rfl | exact Or.inr rfl))) (fun _ _ _ _ _ => pts_nil) (fun _ _ _ _ _ => (pe_cal C_law_right hr (pa_cons (pe_cal C_law_box hr (pa_cons (pv 1) (pa_cons (pv 2) pa_nil))) pa_nil)))) pa_nil)))))), ?_⟩
  intro H B vs Ps P0 hs hp ⟨xs, hP, hl, hP0⟩ D q
  subst hP hP0
  obtain ⟨sv, rfl, h0⟩ := one_of hp
  refine q_no (m := 0) (at0 hs) ((et_not (et_test (K := K) (ev_fn ea_nil ⟨rfl, rfl⟩))).to rfl) fun B1 H1 t1 s1 => ?_
  refine q_asg (i := 1) (m := 0) (P := ExP (fun cs : List Int => 1 ≤ cs.length ∧ cs.length ≤ 2) fun cs => LiP K (cs.map (dI K))) t1 (ev_fn (ea_cons (ev_var (i := 0) rfl (Pr.up h0 s1)) (ea_cons (ev_int (K := K)) ea_nil)) ⟨xs, rfl, hl, rfl⟩) fun cv B2 H2 t2 s2 hc => ?_
  obtain ⟨cs, ⟨hc1, hc2⟩, hc⟩ := hc
  refine s_ret (m := 0) (P := dB K true) t2 (Ev.z (n := 0) (m := 0 + (List.range cs.length).length * 0) ((ev_cb (ea_cons (ev_lo ((ev_lc1 (K := K) (c := 0) (xs := List.range cs.length) (fun _ => dB K true) (es_rng (K := K) (j := cs.length) (ea_cons ((ev_cb (ea_cons (ev_var (i := 1) rfl hc) ea_nil) rc_lenL).to (by rw [List.length_map])) ea_nil) (by omega)).s (by rw [List.length_range]; omega) fun k v B3 l hk s3 hv => ⟨_, tg_name, rfl, Ev.z (n := 0) (m := 0) (ev_boxRight (xs := cs) (k := k) (ea_cons (ev_var (i := 1) rfl (Pr.up hc s3)) (ea_cons (ev_var (i := 2) rfl hv) ea_nil)) (by omega) (by have z := List.mem_range.mp hk; omega))⟩).to (P' := LoP K (((List.range cs.length).map fun _ => true).map (dB K))) (by rw [List.map_map] <;> rfl))) ea_nil) rc_all).to (congrArg (dB K) (by
    rw [List.all_map]
    exact List.all_eq_true.mpr fun _ _ => rfl)))) fun v B' H' a s hv => q _ v B' H' a hv
end
end Pk


set_option Elab.async false
set_option linter.all false
set_option maxRecDepth 100000
set_option maxHeartbeats 0
/-! Hd2: the head: what the top leaves, told by names; the law holds. -/
namespace PkH
open PySem PySem.Spec PyProof.Rows L2
/-- one def: where it stands, its row -/
structure DefE where
  at_ : PySem.W.Frag → Addr
  name : Str
  qual : Str
  st : Stmt
  dfl : PySem.W.Frag → List V := fun _ => []
def dG (x : String) (i : Nat) : DefE := ⟨fun K => He.ga K (Str.ofString x), Str.ofString x, Str.ofString x, top i, fun _ => []⟩
def dM (c m q : String) (i j : Nat) : DefE := ⟨fun K => He.ma K (He.ga K (Str.ofString c)) (Str.ofString m), Str.ofString m, Str.ofString q, inClass (top i) j, fun _ => []⟩
def dP (c m q : String) (i j : Nat) : DefE := ⟨getAd (Str.ofString c) (Str.ofString m), Str.ofString m, Str.ofString q, inClass (top i) j, fun _ => []⟩
abbrev FnT : Type := Option (Str × Str × Arguments × FuncBody × Scope × Addr × List (Str × Addr) × Addr)
def fnT (K : PySem.W.Frag) (a : Addr) : FnT := match K.lookup a with
  | some ⟨_, _, .func fd, _⟩ => some (fd.name, fd.qualname, fd.params, fd.body, fd.scope, fd.globals, fd.closure, fd.builtins)
  | _ => none
def DefE.val (d : DefE) : FnT := some (d.name, d.qual, defArgs d.st, .stmts (defBody d.st), defScope d.st, mainGlobals, [], builtinsNs)
def DefE.ok (K : PySem.W.Frag) (d : DefE) : Bool := PySem.W.keepIn K (.ref (d.at_ K)) && (match K.lookup (d.at_ K) with
  | some ⟨_, _, .func fd, _⟩ => PySem.W.codeIn K fd.code d.qual && He.dflB K fd.defaults (d.dfl K)
  | _ => false)
abbrev FnE (K : PySem.W.Frag) (d : DefE) (fd : FuncData) : Prop := FunD K d.name d.qual (defArgs d.st) (defBody d.st) (defScope d.st) (d.dfl K) [] (d.at_ K) fd
theorem DefE.fun_ {K : PySem.W.Frag} {d : DefE} (e : fnT K (d.at_ K) = d.val) (c : d.ok K = true) : ∃ fd, FnE K d fd := by
  obtain ⟨kp, c2⟩ := He.ba c
  unfold fnT at e
  cases q : K.lookup (d.at_ K) with
  | none =>
    rw [q] at c2
    cases c2
  | some o =>
    obtain ⟨oc, od, dt, osl⟩ := o
    rw [q] at c2 e
    cases dt with
    | func fd =>
      obtain ⟨n1, n2, n3, n4, n5, n6, n7, n8, n9, n10, n11, n12, n13, n14, n15⟩ := fd
      have e2 := e
      simp only [DefE.val, Option.some.injEq, Prod.mk.injEq] at e2
      obtain ⟨h1, h2, h3, h4, h5, h6, h7, h8⟩ := e2
      subst h1 h2 h3 h4 h5 h6 h7 h8
      obtain ⟨k1, k3⟩ := He.ba c2
      exact ⟨_, ⟨oc, od, n8, n9, n10, n11, n12, n13, n14, osl, rfl, q, k1, He.dflB_ok k3, .inl rfl⟩, kp⟩
    | _ => cases c2

/-! ### the facts -/
def propB (K : PySem.W.Frag) (x f : Str) : Bool := He.eqO (PySem.W.findIn K (.ref (He.ga K x)) f) (some (some (.ref (He.ma K (He.ga K x) f)))) && (He.eqO (PySem.W.specialIn K (.ref (He.ma K (He.ga K x) f)) "__get__") (some (some (.builtin "property.__get__"))) && (decide (PySem.W.takesIn K (.ref (He.ma K (He.ga K x) f)) = some true) &&
  (match PySem.W.recIn K (He.ma K (He.ga K x) f) "property" with
  | some (.ref _ :: _) => true
  | _ => false)))
theorem propB_ok {K : PySem.W.Frag} {x f : Str} (h : propB K x f = true) : PropOf K (He.ga K x) f (He.ma K (He.ga K x) f) (getAd x f K) := by
  obtain ⟨h1, h⟩ := He.ba h
  obtain ⟨h2, h⟩ := He.ba h
  obtain ⟨h3, h⟩ := He.ba h
  refine ⟨He.eqO_ok h1, He.eqO_ok h2, of_decide_eq_true h3, ?_⟩
  unfold getAd
  split at h
  · rename_i g r e
    rw [e]
    exact ⟨r, rfl⟩
  · cases h
def fns : List DefE := [dG "is_number" 4, dG "is_name" 5, dG "tupled" 6, dG "set_of" 7, dM "Step" "__init__" "Step.__init__" 35 0, dP "Step" "kind" "Step.kind" 35 2, dP "Step" "label" "Step.label" 35 3, dP "Step" "text" "Step.text" 35 4,
  dG "stretches" 37, dG "blocks_of" 38, dG "plain_of" 39, { dM "Roll" "__init__" "Roll.__init__" 41 0 with dfl := fun K => [.ref (dflS K)] }, dP "Roll" "text" "Roll.text" 41 3, dM "Roll" "__eq__" "Roll.__eq__" 41 13,
  dG "rolled" 44, dG "kinds_at" 45, dG "peeled" 46, dG "one_fitting" 47, dG "refuting" 48, dG "is_refuting" 49]
def fns2 : List DefE := [dG "_law_box" 51, dG "_law_take" 52, dG "_law_cells" 53, dG "_law_of" 54, dG "_law_same" 55, dG "_law_pick" 56, dG "_law_tags" 57, dG "_law_line" 58, dG "_law_orders" 59, dG "_law_kinds" 60, dG "_law_sets" 61,
  dG "_law_outer" 62, dG "_law_plain" 63, dG "_law_text" 64, dG "_law_all" 65, dG "_law_fitting" 66, dG "_law_lot" 67, dG "_law_pairs" 68, dG "_law_lists" 69, dG "_law_left" 70, dG "_law_closed" 71, dG "_law_case_right" 72,
  dG "_law_by_hand_right" 73, dG "_law_right" 74, dG "law" 75]
def gls : List Str := ["is_number", "is_name", "tupled", "set_of", "Step", "stretches", "blocks_of", "plain_of", "Roll", "rolled", "kinds_at", "peeled", "one_fitting", "refuting", "is_refuting", "KINDS"]
def gls2 : List Str := ["_law_box", "_law_take", "_law_cells", "_law_of", "_law_same", "_law_pick", "_law_tags", "_law_line", "_law_orders", "_law_kinds", "_law_sets", "_law_outer", "_law_plain", "_law_text", "_law_all", "_law_fitting", "_law_lot",
  "_law_pairs", "_law_lists", "_law_left", "_law_closed", "_law_case_right", "_law_by_hand_right", "_law_right", "law"]
def frs : List Str := ["len", "isinstance", "tuple", "sorted", "set", "list", "enumerate", "zip", "range", "min", "abs", "int", "all", "str", "bool"]
def fas : List He.Fa := [.int "PAIR_told" 2, .int "LONGEST" 8, .str "SUM" "sum", .str "MAX" "max", .str "NOTHING" "-", .str "LETTERS" "abcdefghijklmnopqrstuvwxyz", .cls "Step", .cls "Roll",
  .noat "Step" "own_kind", .noat "Step" "own_label", .noat "Roll" "own_steps", .noat "Roll" "own_blocks", .mkr "Step", .mkr "Roll", .meth "Roll" "__eq__"]
def isiB (K : PySem.W.Frag) : Bool := He.eqO (PySem.W.findIn K (.ref (He.ga K "Roll")) "__class__") (some (some (.builtin "object.__class__"))) && (He.eqO (PySem.W.specialIn K (.builtin "object.__class__") "__get__") (some (some (.builtin "getset_descriptor.__get__"))) && decide (PySem.W.takesIn K (.builtin "object.__class__") = some true))
def exB (K : PySem.W.Frag) : Bool := (gls.all fun x => (He.Fa.glo x).ok K) && ((gls2.all fun x => (He.Fa.glo x).ok K) && ((frs.all fun x => (He.Fa.free x).ok K) && ((fas.all fun f => f.ok K) && (propB K "Step" "kind" && (propB K "Step" "label" && (propB K "Step" "text" &&
  (propB K "Roll" "text" && (He.tupB K "KINDS" [.str "sum", .str "max"] && (He.eqO (PySem.W.findIn K (.ref (He.ga K "Roll")) "__ne__") (some (some (.builtin "object.__ne__"))) && (isiB K && ((fns.all fun d => d.ok K) && (fns2.all fun d => d.ok K))))))))))))
abbrev AlP : Type := Bool × List FnT × List FnT
def obsP (K : PySem.W.Frag) : AlP := (exB K, fns.map fun d => fnT K (d.at_ K), fns2.map fun d => fnT K (d.at_ K))
def valP : AlP := (true, fns.map DefE.val, fns2.map DefE.val)
def SaysP (K : PySem.W.Frag) : Prop := obsP K = valP
def nbr (g : Addr → Option Obj) (as : List Addr) : List Addr := as.flatMap fun a => match g a with
  | some o => He.refsD o
  | none => []
def clsAt (g : Addr → Option Obj) : List Addr := [He.ga (He.frG g [mainGlobals]) "Step", He.ga (He.frG g [mainGlobals]) "Roll"]
def fnAt (g : Addr → Option Obj) : List Addr := (gls ++ gls2).map (He.ga (He.frG g [mainGlobals]))
def seeAt (g : Addr → Option Obj) : List Addr := mainGlobals :: (clsAt g ++ (fnAt g ++ (nbr g (clsAt g) ++ (nbr g (nbr g (clsAt g)) ++ (nbr g (nbr g (nbr g (clsAt g))) ++ (nbr g (fnAt g) ++ nbr g (nbr g (nbr g (nbr g (clsAt g))))))))))
def obsG (g : Addr → Option Obj) : AlP := obsP (He.frG g (seeAt g))
def hookP : PySem.W.Hook where
  α := AlP
  obs := fun s => obsG s.heap.get?
  val := fun _ => valP
  says := fun _ h => ∃ K : PySem.W.Frag, K.In h ∧ SaysP K
  of := fun _ _ e => ⟨_, He.frG_in, e⟩
  keeps := fun _ _ _ ⟨K, hK, c⟩ k => ⟨K, PySem.W.Frag.In.keeps hK k, c⟩
abbrev R : PySem.W.OpenRow := PySem.W.OpenLaw.row PySem.Challenge.rw_peaksums_k67_whole_some_one_fits_or_none
abbrev hk : PySem.W.Hook := hookP
def ob (s : PySem.W.SharedT) : AlP := obsG (HandSHeadRun.getT s)
theorem ob_eq (s : PySem.W.SharedT) : ob s = hk.obs s.abs := by
  have e : HandSHeadRun.getT s = s.abs.heap.get? := funext fun a => HandSHeadRun.getT_eq s a
  unfold ob
  rw [e] <;> rfl
def loose1 : List PySem.Str := ["_wall", "LETTERS", "LONGEST", "is_number", "is_name", "tupled", "set_of", "number_in", "NoLabel", "NoPlace", "BadText", "BadRow", "BadStep", "Twice", "Unlike", "OtherLabels", "Kept", "NOTHING", "PAIR_tables", "added", "is_row", "is_rows", "names_in", "row_in", "other_label", "Table"]
def loose2 : List PySem.Str := ["SUM", "MAX", "KINDS", "PAIR_steps", "peaks", "Step", "stretches", "blocks_of", "plain_of", "Roll", "PAIR_told", "rolled", "kinds_at", "peeled", "one_fitting", "refuting", "is_refuting"]
def loose3 : List PySem.Str := ["_law_box", "_law_take", "_law_cells", "_law_of", "_law_same", "_law_pick", "_law_tags", "_law_line", "_law_orders", "_law_kinds", "_law_sets", "_law_outer", "_law_plain", "_law_text", "_law_all", "_law_fitting", "_law_lot",
  "_law_pairs", "_law_lists", "_law_left", "_law_closed", "_law_case_right", "_law_by_hand_right", "_law_right"]
def loose : List PySem.Str := loose1 ++ loose2 ++ loose3
theorem run (w : World) : HandSHeadRun.RunEq R (PySem.W.view R.prog [75]) hk ob 8000 loose w := by
  intro os
  kernel_rfl
theorem facts {K : PySem.W.Frag} {h : Heap} {mg : Str → Option Value} (X : K.In h) (G : h.Ns mainGlobals mg) (c : SaysP K) : Txt K mg ∧ Pk.TxI K := by
  obtain ⟨e1, e23⟩ := Prod.mk.inj c
  obtain ⟨e2, e3⟩ := Prod.mk.inj e23
  obtain ⟨h1, e1⟩ := He.ba e1
  obtain ⟨h2, e1⟩ := He.ba e1
  obtain ⟨h3, e1⟩ := He.ba e1
  obtain ⟨h4, e1⟩ := He.ba e1
  obtain ⟨h5, e1⟩ := He.ba e1
  obtain ⟨h6, e1⟩ := He.ba e1
  obtain ⟨h7, e1⟩ := He.ba e1
  obtain ⟨h8, e1⟩ := He.ba e1
  obtain ⟨h9, e1⟩ := He.ba e1
  obtain ⟨h10, e1⟩ := He.ba e1
  obtain ⟨h11, e1⟩ := He.ba e1
  obtain ⟨h12, h13⟩ := He.ba e1
  have glo1 : ∀ (i : Nat) {x : Str}, gls[i]? = some x → mg x = some (.ref (He.ga K x)) := fun i x e => He.glo_ok X G (List.all_eq_true.mp h1 x (List.mem_of_getElem? e))
  have glo2 : ∀ (i : Nat) {x : Str}, gls2[i]? = some x → mg x = some (.ref (He.ga K x)) := fun i x e => He.glo_ok X G (List.all_eq_true.mp h2 x (List.mem_of_getElem? e))
  have fre : ∀ (i : Nat) {x : Str}, frs[i]? = some x → mg x = none := fun i x e => He.free_ok X G (List.all_eq_true.mp h3 x (List.mem_of_getElem? e))
  have fac : ∀ (i : Nat) {f : He.Fa}, fas[i]? = some f → f.ok K = true := fun i f e => List.all_eq_true.mp h4 f (List.mem_of_getElem? e)
  have def1 : ∀ (i : Nat) {d : DefE}, fns[i]? = some d → ∃ fd, FnE K d fd := fun i d e => DefE.fun_ (List.map_inj_left.mp e2 d (List.mem_of_getElem? e)) (List.all_eq_true.mp h12 d (List.mem_of_getElem? e))
  have def2 : ∀ (i : Nat) {d : DefE}, fns2[i]? = some d → ∃ fd, FnE K d fd := fun i d e => DefE.fun_ (List.map_inj_left.mp e3 d (List.mem_of_getElem? e)) (List.all_eq_true.mp h13 d (List.mem_of_getElem? e))
  obtain ⟨i1, i23⟩ := He.ba h11
  obtain ⟨i2, i3⟩ := He.ba i23
  refine ⟨?_, ⟨He.eqO_ok i1, He.eqO_ok i2, of_decide_eq_true i3⟩⟩
  exact {
    f_is_number := def1 0 rfl
    g_is_number := glo1 0 rfl
    f_is_name := def1 1 rfl
    g_is_name := glo1 1 rfl
    f_tupled := def1 2 rfl
    g_tupled := glo1 2 rfl
    f_set_of := def1 3 rfl
    g_set_of := glo1 3 rfl
    f_stretches := def1 8 rfl
    g_stretches := glo1 5 rfl
    f_blocks_of := def1 9 rfl
    g_blocks_of := glo1 6 rfl
    f_plain_of := def1 10 rfl
    g_plain_of := glo1 7 rfl
    f_rolled := def1 14 rfl
    g_rolled := glo1 9 rfl
    f_kinds_at := def1 15 rfl
    g_kinds_at := glo1 10 rfl
    f_peeled := def1 16 rfl
    g_peeled := glo1 11 rfl
    f_one_fitting := def1 17 rfl
    g_one_fitting := glo1 12 rfl
    f_refuting := def1 18 rfl
    g_refuting := glo1 13 rfl
    f_is_refuting := def1 19 rfl
    g_is_refuting := glo1 14 rfl
    f_law_box := def2 0 rfl
    g_law_box := glo2 0 rfl
    f_law_take := def2 1 rfl
    g_law_take := glo2 1 rfl
    f_law_cells := def2 2 rfl
    g_law_cells := glo2 2 rfl
    f_law_of := def2 3 rfl
    g_law_of := glo2 3 rfl
    f_law_same := def2 4 rfl
    g_law_same := glo2 4 rfl
    f_law_pick := def2 5 rfl
    g_law_pick := glo2 5 rfl
    f_law_tags := def2 6 rfl
    g_law_tags := glo2 6 rfl
    f_law_line := def2 7 rfl
    g_law_line := glo2 7 rfl
    f_law_orders := def2 8 rfl
    g_law_orders := glo2 8 rfl
    f_law_kinds := def2 9 rfl
    g_law_kinds := glo2 9 rfl
    f_law_sets := def2 10 rfl
    g_law_sets := glo2 10 rfl
    f_law_outer := def2 11 rfl
    g_law_outer := glo2 11 rfl
    f_law_plain := def2 12 rfl
    g_law_plain := glo2 12 rfl
    f_law_text := def2 13 rfl
    g_law_text := glo2 13 rfl
    f_law_all := def2 14 rfl
    g_law_all := glo2 14 rfl
    f_law_fitting := def2 15 rfl
    g_law_fitting := glo2 15 rfl
    f_law_lot := def2 16 rfl
    g_law_lot := glo2 16 rfl
    f_law_pairs := def2 17 rfl
    g_law_pairs := glo2 17 rfl
    f_law_lists := def2 18 rfl
    g_law_lists := glo2 18 rfl
    f_law_left := def2 19 rfl
    g_law_left := glo2 19 rfl
    f_law_closed := def2 20 rfl
    g_law_closed := glo2 20 rfl
    f_law_case_right := def2 21 rfl
    g_law_case_right := glo2 21 rfl
    f_law_by_hand_right := def2 22 rfl
    g_law_by_hand_right := glo2 22 rfl
    f_law_right := def2 23 rfl
    g_law_right := glo2 23 rfl
    f_law := def2 24 rfl
    g_law := glo2 24 rfl
    m_len := fre 0 rfl
    m_isinstance := fre 1 rfl
    m_tuple := fre 2 rfl
    m_sorted := fre 3 rfl
    m_set := fre 4 rfl
    m_list := fre 5 rfl
    m_enumerate := fre 6 rfl
    m_zip := fre 7 rfl
    m_range := fre 8 rfl
    m_min := fre 9 rfl
    m_abs := fre 10 rfl
    m_int := fre 11 rfl
    m_all := fre 12 rfl
    m_str := fre 13 rfl
    m_bool := fre 14 rfl
    c_two := He.int_ok X G (fac 0 rfl)
    c_longest := He.int_ok X G (fac 1 rfl)
    c_SUM := He.str_ok X G (fac 2 rfl)
    c_MAX := He.str_ok X G (fac 3 rfl)
    c_NOTHING := He.str_ok X G (fac 4 rfl)
    c_LETTERS := He.str_ok X G (fac 5 rfl)
    g_KINDS := glo1 15 rfl
    t_KINDS := fun H => He.tupB_ok h9 H
    g_Step := glo1 4 rfl
    cl_Step := He.cls_ok (fac 6 rfl)
    mk_Step := He.mkr_ok (fac 12 rfl)
    g_Roll := glo1 8 rfl
    cl_Roll := He.cls_ok (fac 7 rfl)
    mk_Roll := He.mkr_ok (fac 13 rfl)
    n_own_kind := He.noat_ok (fac 8 rfl)
    n_own_label := He.noat_ok (fac 9 rfl)
    n_own_steps := He.noat_ok (fac 10 rfl)
    n_own_blocks := He.noat_ok (fac 11 rfl)
    f_Step_init := def1 4 rfl
    f_Roll_init := def1 11 rfl
    p_Step_kind := propB_ok h5
    f_Step_kind := def1 5 rfl
    p_Step_label := propB_ok h6
    f_Step_label := def1 6 rfl
    p_Step_text := propB_ok h7
    f_Step_text := def1 7 rfl
    p_Roll_text := propB_ok h8
    f_Roll_text := def1 12 rfl
    f_Roll_eq := def1 13 rfl
    e_Roll_eq := He.meth_ok (fac 14 rfl)
    e_Roll_ne := He.eqO_ok h10
  }
end PkH
namespace Pk
open PySem PySem.Spec PyProof.Rows L2 PkH PySem.W
theorem law_end {P : Program} {w : World} {K : PySem.W.Frag} {mg : Str → Option Value} (T : Txt K mg) (I : TxI K) {fa : Addr} (hmg : mg "law" = some (.ref fa)) :
    ∃ fd : FuncData, (∀ (s : Shared) (v : Value), BindsTo s fd ⟨[v], []⟩ [("_law_script", v)]) ∧ ∀ base : Heap, K.In base → base.Ns mainGlobals mg → FnOk P w K mg base CX0 15 fa fd ["_law_script"] (spF (GLaw K)) := by
  obtain ⟨fd, F⟩ := T.f_law
  have e := hmg.symm.trans T.g_law
  cases e
  refine ⟨fd, fun s v => F.bindsA (ps := ["_law_script"]) (fun _ _ _ _ _ _ us hl => match us, hl with | [_], _ => rfl) s [v] rfl, fun base _ _ => ?_⟩
  exact okLaw T I F
theorem law_says {K : PySem.W.Frag} {H : Hp} {a : Addr} {ns : List Int} (hl : ns.length ≤ 63) (hS : SqL K H a (ns.map V.int)) : spF (GLaw K) [.ref a] H (fun v _ => v = .bl true) fun _ _ _ => False :=
  ⟨H, [LiP K (ns.map (dI K))], dB K true, Same.refl H, .cons ⟨a, _, rfl, hS, psI ns⟩ .nil, ⟨ns, rfl, hl, rfl⟩, fun v B' H' _ _ hv => dd_bool hv⟩
end Pk
open PySem PySem.W PySem.Calls PyProof.Rows
theorem PySem.Challenge.cw_peaksums_k67_whole_some_one_fits_or_none_holds : PySem.Challenge.rw_peaksums_k67_whole_some_one_fits_or_none.Holds := by
  w_on; o_law
  refine HandSHeadRun.head_any (r := OpenLaw.row PySem.Challenge.rw_peaksums_k67_whole_some_one_fits_or_none) (q := view (OpenLaw.row PySem.Challenge.rw_peaksums_k67_whole_some_one_fits_or_none).prog [75]) (H := PkH.hk) (ob := PkH.ob) (M := 8000) (loose := PkH.loose) (d := HandSHeadRun.topDef (OpenLaw.row PySem.Challenge.rw_peaksums_k67_whole_some_one_fits_or_none).prog 75) (kwd := []) PkH.ob_eq
    (by kernel_rfl) (fun s => by kernel_rfl) PkH.run (by kernel_rfl) (by kernel_rfl) (by kernel_rfl) (by rfl) (by first | assumption | decide +kernel) (by decide +kernel) ⟨rfl, rfl, rfl, rfl, rfl, by decide +kernel⟩ ?hw ?hc
  case hw => w_witness2
  case hc =>
    refine L2.walk_ofE (l := PySem.Challenge.rw_peaksums_k67_whole_some_one_fits_or_none) (n := 63) (k := 15) (x := "_law_script") (CX := L2.CX0) rfl (by decide) (by kernel_rfl) ⟨rfl, by decide, by decide⟩ ?F (fun _ _ _ _ z => z)
    intro w mg fa h Y G hmg0
    obtain ⟨K, KX, c⟩ := Y
    have hmg : mg ("law" : PySem.Str) = some (.ref fa) := by
      have e : (HandSHeadRun.topDef (OpenLaw.row PySem.Challenge.rw_peaksums_k67_whole_some_one_fits_or_none).prog 75).name = ("law" : PySem.Str) := by kernel_rfl
      rw [← e]
      exact hmg0
    obtain ⟨T, I⟩ := PkH.facts KX G c
    obtain ⟨fd, hb, hF⟩ := Pk.law_end (P := (PySem.Challenge.rw_peaksums_k67_whole_some_one_fits_or_none).prog) (w := w) T I hmg
    exact ⟨K, fd, Pk.spF (Pk.GLaw K), KX, hb, fun H a ns hl _ hS => Pk.law_says hl hS, hF⟩

