import PyProof.Rows.All
import Wide.All
import OpenK.AllK
import Wide.FinOn
import HandS.ForMost
import HandS.Zip
import HandS.Conv
import HandS.Style
import HandS.IsInst
import HandS.TupSets
import HandS.Deep
import HandS.NoneIn
import HandS.TupAny
import HandS.Wide
import HandS.StrMore
import KE.SortData
import KE.KeyNested
import HandS.Defaults
import KE.GoesMore
import HandS.SetTxt0
import KE.KStateDown
import HandS.Base
import HandS.Call
import HandS.Words
import PySem.Challenge.RW_shiftroads_k31_whole_items_and_closed_it
import HandS.Ends
import HandS.More
import HandS.WordsExc
import HandS.Head0
import HandS.Head1
import HandS.Head2
import HandS.HeadEnd
import HandS.HeadHook1
import HandS.HeadHook2
import Lean
set_option Elab.async false
set_option linter.all false
set_option maxRecDepth 100000
set_option maxHeartbeats 4000000
set_option maxHeartbeats 4000000
/-! Layer A: what a value stands for (deep data off the mutable addresses), readings of expressions and statements told by data. -/
namespace Sh
open PySem PySem.Spec PyProof.Rows L2

/-! ### values as data -/
mutual
inductive Rp (M : Addr → Prop) (H : Hp) : V → PyData → Prop
  | non : Rp M H .non .none
  | bl (b : Bool) : Rp M H (.bl b) (.bool b)
  | int (i : Int) : Rp M H (.int i) (.int i)
  | str (x : Str) : Rp M H (.str x) (.str x)
  | lst {a : Addr} {xs : List V} {ds : List PyData} : ¬ M a → H a = some (.lst xs) → Rps M H xs ds → Rp M H (.ref a) (.list ds)
  | tup {a : Addr} {xs : List V} {ds : List PyData} : ¬ M a → H a = some (.tup xs) → Rps M H xs ds → Rp M H (.ref a) (.tuple ds)
inductive Rps (M : Addr → Prop) (H : Hp) : List V → List PyData → Prop
  | nil : Rps M H [] []
  | cons {v : V} {vs : List V} {d : PyData} {ds : List PyData} : Rp M H v d → Rps M H vs ds → Rps M H (v :: vs) (d :: ds)
end

section
variable {M M' : Addr → Prop} {H H' : Hp}
mutual
theorem Rp.mono (hM : ∀ a o, M' a → H a = some o → M a) (hk : ∀ a o, ¬ M a → H a = some o → H' a = some o) : ∀ (d : PyData) {v : V}, Rp M H v d → Rp M' H' v d
  | .none, _, h => by cases h; exact .non
  | .bool b, _, h => by cases h; exact .bl b
  | .int i, _, h => by cases h; exact .int i
  | .str x, _, h => by cases h; exact .str x
  | .dict _, _, h => by cases h
  | .list ds, _, h => by
    cases h with
    | lst n e r => exact .lst (fun m => n (hM _ _ m e)) (hk _ _ n e) (Rps.mono hM hk ds r)
  | .tuple ds, _, h => by
    cases h with
    | tup n e r => exact .tup (fun m => n (hM _ _ m e)) (hk _ _ n e) (Rps.mono hM hk ds r)
theorem Rps.mono (hM : ∀ a o, M' a → H a = some o → M a) (hk : ∀ a o, ¬ M a → H a = some o → H' a = some o) : ∀ (ds : List PyData) {vs : List V}, Rps M H vs ds → Rps M' H' vs ds
  | [], _, h => by cases h; exact .nil
  | d :: ds, _, h => by
    cases h with
    | cons h1 h2 => exact .cons (Rp.mono hM hk d h1) (Rps.mono hM hk ds h2)
end
mutual
theorem Rp.dp {K : PySem.W.Frag} : ∀ (d : PyData) {v : V}, Rp M H v d → Dp K H v d
  | .none, _, h => by cases h; exact .non
  | .bool b, _, h => by cases h; exact .bl b
  | .int i, _, h => by cases h; exact .int i
  | .str x, _, h => by cases h; exact .str x
  | .dict _, _, h => by cases h
  | .list ds, _, h => by
    cases h with
    | lst n e r => exact .lst (SqL.of e) (Rps.dp ds r)
  | .tuple ds, _, h => by
    cases h with
    | tup n e r => exact .tup (SqT.of e) (Rps.dp ds r)
theorem Rps.dp {K : PySem.W.Frag} : ∀ (ds : List PyData) {vs : List V}, Rps M H vs ds → DpAll K H vs ds
  | [], _, h => by cases h; exact .nil
  | d :: ds, _, h => by
    cases h with
    | cons h1 h2 => exact .cons (Rp.dp d h1) (Rps.dp ds h2)
end
theorem Rps.length : ∀ {vs : List V} {ds : List PyData}, Rps M H vs ds → vs.length = ds.length
  | _, _, .nil => rfl
  | _, _, .cons _ t => by rw [List.length_cons, List.length_cons, Rps.length t]
theorem Rps.get : ∀ {vs : List V} {ds : List PyData} {i : Nat} {d : PyData}, Rps M H vs ds → ds[i]? = some d → ∃ v, vs[i]? = some v ∧ Rp M H v d
  | _, _, _, _, .nil, e => by simp at e
  | _, _, 0, _, .cons r _, e => by
    simp at e
    subst e
    exact ⟨_, rfl, r⟩
  | _, _, i + 1, d, .cons _ t, e => by
    obtain ⟨v, h1, h2⟩ := Rps.get (i := i) (d := d) t (by simpa using e)
    exact ⟨v, by simpa using h1, h2⟩
theorem Rps.at_ : ∀ {vs : List V} {ds : List PyData} {i : Nat} {v : V}, Rps M H vs ds → vs[i]? = some v → ∃ d, ds[i]? = some d ∧ Rp M H v d
  | _, _, _, _, .nil, e => by simp at e
  | _, _, 0, _, .cons r _, e => by
    simp at e
    subst e
    exact ⟨_, rfl, r⟩
  | _, _, i + 1, v, .cons _ t, e => by
    obtain ⟨d, h1, h2⟩ := Rps.at_ (i := i) (v := v) t (by simpa using e)
    exact ⟨d, by simpa using h1, h2⟩
theorem Rps.append : ∀ {vs ws : List V} {ds es : List PyData}, Rps M H vs ds → Rps M H ws es → Rps M H (vs ++ ws) (ds ++ es)
  | _, _, _, _, .nil, s => s
  | _, _, _, _, .cons r t, s => .cons r (Rps.append t s)
theorem Rps.take : ∀ {vs : List V} {ds : List PyData} (n : Nat), Rps M H vs ds → Rps M H (vs.take n) (ds.take n)
  | _, _, 0, _ => .nil
  | _, _, _ + 1, .nil => .nil
  | _, _, n + 1, .cons r t => .cons r (Rps.take n t)
theorem Rps.drop : ∀ {vs : List V} {ds : List PyData} (n : Nat), Rps M H vs ds → Rps M H (vs.drop n) (ds.drop n)
  | _, _, 0, r => r
  | _, _, _ + 1, .nil => .nil
  | _, _, n + 1, .cons _ t => Rps.drop n t
theorem Rps.one {v : V} {d : PyData} (h : Rp M H v d) : Rps M H [v] [d] := .cons h .nil
/-- the other way round: a list of values whose items are told one by one -/
theorem Rps.of_all : ∀ {vs : List V} {ds : List PyData}, vs.length = ds.length → (∀ (i : Nat) v d, vs[i]? = some v → ds[i]? = some d → Rp M H v d) → Rps M H vs ds
  | [], [], _, _ => .nil
  | v :: vs, d :: ds, hl, h => .cons (h 0 v d rfl rfl) (Rps.of_all (by simpa using hl) fun i u e a b => h (i + 1) u e (by simpa using a) (by simpa using b))
  | [], _ :: _, hl, _ => by simp at hl
  | _ :: _, [], hl, _ => by simp at hl
end

/-! ### the cup, what may change -/
/-- the cup's list: two ints, the second one small -/
def CupOk (o : Option HO) : Prop := ∃ x y : Int, o = some (.lst [.int x, .int y]) ∧ 0 ≤ x ∧ 0 ≤ y ∧ y < 1099511627776
/-- c: the cup's address, if there is one; M: the addresses that hold no data -/
structure Wd (c : Option Addr) (M : Addr → Prop) (H : Hp) : Prop where
  trk : ∀ a, M a → H a ≠ none
  cup : ∀ a, c = some a → M a ∧ CupOk (H a)
  mu : ∀ a xs, M a → H a ≠ some (.tup xs)
/-- all that is tracked stays, but the cup -/
def Ex (c : Option Addr) (H H' : Hp) : Prop := ∀ a o, c ≠ some a → H a = some o → H' a = some o
section
variable {c : Option Addr} {M : Addr → Prop} {H H1 H2 : Hp}
theorem Ex.refl (c : Option Addr) (H : Hp) : Ex c H H := fun _ _ _ e => e
theorem Ex.trans (a : Ex c H H1) (b : Ex c H1 H2) : Ex c H H2 := fun x o n e => b x o n (a x o n e)
theorem Ex.wide (a : Ex none H H1) : Ex c H H1 := fun x o _ e => a x o (fun z => nomatch z) e
theorem Ex.new {p : Addr} {o : HO} (h : H p = none) : Ex c H (upd H p o) := fun a u _ e => by
  rw [upd_ne (ne_of_none e h)]
  exact e
theorem ex_none {a : Addr} {o : HO} (x : Ex none H H1) (e : H a = some o) : H1 a = some o := x a o (fun z => nomatch z) e
theorem Wd.ex (w : Wd c M H) (x : Ex none H H1) : Wd c M H1 where
  trk := fun a m => by
    cases e : H a with
    | none => exact absurd e (w.trk a m)
    | some o =>
      rw [ex_none x e]
      exact fun z => nomatch z
  cup := fun a e => by
    obtain ⟨m, i, j, h, r⟩ := w.cup a e
    exact ⟨m, i, j, ex_none x h, r⟩
  mu := fun a xs m => by
    cases e : H a with
    | none => exact absurd e (w.trk a m)
    | some o =>
      rw [ex_none x e, ← e]
      exact w.mu a xs m
theorem Wd.bare (w : Wd c M H) : Wd none M H := ⟨w.trk, fun _ e => (nomatch e), w.mu⟩
theorem Wd.keep (w : Wd c M H) (x : Ex c H H1) : ∀ a o, ¬ M a → H a = some o → H1 a = some o := fun a o n e => x a o (fun z => n (w.cup a z).1) e
theorem Wd.fresh (w : Wd c M H) {p : Addr} (h : H p = none) : ¬ M p := fun m => w.trk p m h
theorem Rp.ex {v : V} {d : PyData} (w : Wd c M H) (x : Ex c H H1) (r : Rp M H v d) : Rp M H1 v d := Rp.mono (fun _ _ m _ => m) (w.keep x) d r
theorem Rps.ex {vs : List V} {ds : List PyData} (w : Wd c M H) (x : Ex c H H1) (r : Rps M H vs ds) : Rps M H1 vs ds := Rps.mono (fun _ _ m _ => m) (w.keep x) ds r
theorem Ex.fresh_back (w : Wd c M H1) (wh : Wd c M H) (x : Ex c H H1) {p : Addr} (h : H1 p = none) : H p = none := by
  cases e : H p with
  | none => rfl
  | some o =>
    by_cases z : c = some p
    · obtain ⟨m, _⟩ := w.cup p z
      exact absurd h (w.trk p m)
    · rw [x p o z e] at h
      cases h
end

/-! ### slots -/
inductive Ds where
  | any
  | dat (d : PyData)
  | adr (a : Addr)
  | rg (lo hi : Int)
def SdR (M : Addr → Prop) (H : Hp) (o : Option (Option V)) : Ds → Prop
  | .any => True
  | .dat d => ∃ v, o = some (some v) ∧ Rp M H v d
  | .adr a => o = some (some (.ref a))
  | .rg lo hi => ∃ a, o = some (some (.ref a)) ∧ ¬ M a ∧ H a = some (.rng lo hi)
def Sl (M : Addr → Prop) (H : Hp) (σ : L2.St) (δ : List Ds) : Prop := σ.length = δ.length ∧ ∀ (i : Nat) s, δ[i]? = some s → SdR M H σ[i]? s
def wipeD (δ : List Ds) : List Nat → List Ds
  | [] => δ
  | v :: vs => (wipeD δ vs).set v .any
section
variable {c : Option Addr} {M M' : Addr → Prop} {H H1 H2 : Hp} {σ : L2.St} {δ : List Ds}
theorem SdR.mono {o : Option (Option V)} {s : Ds} (hM : ∀ a o, M' a → H a = some o → M a) (hk : ∀ a o, ¬ M a → H a = some o → H1 a = some o) (h : SdR M H o s) : SdR M' H1 o s := by
  cases s with
  | any => trivial
  | dat d =>
    obtain ⟨v, e, r⟩ := h
    exact ⟨v, e, Rp.mono hM hk d r⟩
  | adr a => exact h
  | rg lo hi =>
    obtain ⟨a, e, n, r⟩ := h
    exact ⟨a, e, fun m => n (hM _ _ m r), hk _ _ n r⟩
theorem Sl.mono (hM : ∀ a o, M' a → H a = some o → M a) (hk : ∀ a o, ¬ M a → H a = some o → H1 a = some o) (h : Sl M H σ δ) : Sl M' H1 σ δ := ⟨h.1, fun i s e => (h.2 i s e).mono hM hk⟩
theorem Sl.ex (w : Wd c M H) (x : Ex c H H1) (h : Sl M H σ δ) : Sl M H1 σ δ := h.mono (fun _ _ m _ => m) (w.keep x)
theorem Sl.var {i : Nat} {d : PyData} (h : Sl M H σ δ) (e : δ[i]? = some (.dat d)) : ∃ v, σ[i]? = some (some v) ∧ Rp M H v d := h.2 i _ e
theorem Sl.adr {i : Nat} {a : Addr} (h : Sl M H σ δ) (e : δ[i]? = some (.adr a)) : σ[i]? = some (some (.ref a)) := h.2 i _ e
theorem Sl.set {i : Nat} {v : V} {s : Ds} (h : Sl M H σ δ) (r : SdR M H (some (some v)) s) : Sl M H (σ.set i (some v)) (δ.set i s) := by
  refine ⟨by rw [List.length_set, List.length_set]; exact h.1, fun j s' e => ?_⟩
  rw [List.getElem?_set] at e ⊢
  by_cases hij : i = j
  · rw [if_pos hij] at e ⊢
    by_cases hl : i < δ.length
    · rw [if_pos hl] at e
      rw [if_pos (by rw [h.1]; exact hl)]
      rw [← Option.some.inj e]
      exact r
    · rw [if_neg hl] at e
      cases e
  · rw [if_neg hij] at e ⊢
    exact h.2 j s' e
theorem Sl.forget {i : Nat} {x : Option V} (h : Sl M H σ δ) : Sl M H (σ.set i x) (δ.set i .any) := by
  refine ⟨by rw [List.length_set, List.length_set]; exact h.1, fun j s' e => ?_⟩
  rw [List.getElem?_set] at e ⊢
  by_cases hij : i = j
  · rw [if_pos hij] at e ⊢
    by_cases hl : i < δ.length
    · rw [if_pos hl] at e
      rw [← Option.some.inj e]
      trivial
    · rw [if_neg hl] at e
      cases e
  · rw [if_neg hij] at e ⊢
    exact h.2 j s' e
theorem Sl.dat {i : Nat} {v : V} {d : PyData} (h : Sl M H σ δ) (r : Rp M H v d) : Sl M H (σ.set i (some v)) (δ.set i (.dat d)) := h.set ⟨v, rfl, r⟩
theorem Sl.wipe (h : Sl M H σ δ) : ∀ vs : List Nat, Sl M H (wipe σ vs) (wipeD δ vs)
  | [] => h
  | v :: vs => by
    show Sl M H ((L2.wipe σ vs).set v none) ((wipeD δ vs).set v .any)
    exact (Sl.wipe h vs).forget
end
end Sh

set_option maxHeartbeats 4000000
/-! Layer B: readings told by data. -/
namespace Sh
open PySem PySem.Spec PyProof.Rows L2

/-! ### judgements -/
def Ev (c : Option Addr) (te : TE) (δ : List Ds) (P : PyData → Prop) : Prop :=
  ∀ (M : Addr → Prop) (σ : L2.St) (H : Hp), Wd c M H → Sl M H σ δ → ∀ Q : VK, (∀ v d H', Ex c H H' → Wd c M H' → Rp M H' v d → P d → Q v H') → te σ H Q
def EvT (c : Option Addr) (tt : TT) (δ : List Ds) (P : Bool → Prop) : Prop :=
  ∀ (M : Addr → Prop) (σ : L2.St) (H : Hp), Wd c M H → Sl M H σ δ → ∀ Q : Bool → Hp → Prop, (∀ b H', Ex c H H' → Wd c M H' → P b → Q b H') → tt σ H Q
def EvA (c : Option Addr) (ta : TA) (δ : List Ds) (P : List PyData → Prop) : Prop :=
  ∀ (M : Addr → Prop) (σ : L2.St) (H : Hp), Wd c M H → Sl M H σ δ → ∀ Q : List V → Hp → Prop, (∀ vs ds H', Ex c H H' → Wd c M H' → Rps M H' vs ds → P ds → Q vs H') → ta σ H Q
abbrev EvD (c : Option Addr) (te : TE) (δ : List Ds) (d : PyData) : Prop := Ev c te δ fun x => x = d
abbrev EvB (c : Option Addr) (tt : TT) (δ : List Ds) (b : Bool) : Prop := EvT c tt δ fun x => x = b
abbrev EvL (c : Option Addr) (ta : TA) (δ : List Ds) (ds : List PyData) : Prop := EvA c ta δ fun x => x = ds
section
variable {c : Option Addr} {te ta tb tx : TE} {tt tu : TT} {tl tr : TA} {δ : List Ds} {P A B R : PyData → Prop} {i : Nat} {d x y z : PyData} {ds xs : List PyData} {K : PySem.W.Frag}
theorem Ev.imp (h : Ev c te δ P) (k : ∀ d, P d → R d) : Ev c te δ R := fun M σ H w s Q q => h M σ H w s Q fun v d H' e w' r p => q v d H' e w' r (k d p)
theorem Ev.is (h : EvD c te δ x) (e : x = y) : EvD c te δ y := e ▸ h
theorem EvT.imp {P R : Bool → Prop} (h : EvT c tt δ P) (k : ∀ b, P b → R b) : EvT c tt δ R := fun M σ H w s Q q => h M σ H w s Q fun b H' e w' p => q b H' e w' (k b p)
theorem EvT.is {a b : Bool} (h : EvB c tt δ a) (e : a = b) : EvB c tt δ b := e ▸ h
theorem EvA.imp {P R : List PyData → Prop} (h : EvA c tl δ P) (k : ∀ d, P d → R d) : EvA c tl δ R := fun M σ H w s Q q => h M σ H w s Q fun v d H' e w' r p => q v d H' e w' r (k d p)
theorem EvA.is {x y : List PyData} (h : EvL c tl δ x) (e : x = y) : EvL c tl δ y := e ▸ h

theorem ev_var (e : δ[i]? = some (.dat d)) : EvD c (tVar i) δ d := fun M σ H w s Q q => by
  obtain ⟨v, h, r⟩ := s.var e
  exact ⟨v, h, q v d H (Ex.refl c H) w r rfl⟩
theorem ev_int {n : Int} : EvD c (tC (.int n)) δ (.int n) := fun M σ H w s Q q => q _ _ H (Ex.refl c H) w (.int n) rfl
theorem ev_str {n : Str} : EvD c (tC (.str n)) δ (.str n) := fun M σ H w s Q q => q _ _ H (Ex.refl c H) w (.str n) rfl
theorem ev_bl {n : Bool} : EvD c (tC (.bl n)) δ (.bool n) := fun M σ H w s Q q => q _ _ H (Ex.refl c H) w (.bl n) rfl
theorem ev_non : EvD c (tC .non) δ .none := fun M σ H w s Q q => q _ _ H (Ex.refl c H) w .non rfl

/-! ### operators on values -/
def RD2 (r : R2) (x y : PyData) (R : PyData → Prop) : Prop :=
  ∀ (M : Addr → Prop) (H : Hp) (v u : V), (∀ a, M a → H a ≠ none) → Rp M H v x → Rp M H u y → ∀ Q : VK, (∀ z d H', Ex none H H' → Rp M H' z d → R d → Q z H') → r v u H Q
def RD1 (r : V → Hp → VK → Prop) (x : PyData) (R : PyData → Prop) : Prop :=
  ∀ (M : Addr → Prop) (H : Hp) (v : V), (∀ a, M a → H a ≠ none) → Rp M H v x → ∀ Q : VK, (∀ z d H', Ex none H H' → Rp M H' z d → R d → Q z H') → r v H Q
def RDL (r : List V → Hp → VK → Prop) (xs : List PyData) (R : PyData → Prop) : Prop :=
  ∀ (M : Addr → Prop) (H : Hp) (vs : List V), (∀ a, M a → H a ≠ none) → Rps M H vs xs → ∀ Q : VK, (∀ z d H', Ex none H H' → Rp M H' z d → R d → Q z H') → r vs H Q
theorem ev_opP {r : R2} (ha : Ev c ta δ A) (hb : Ev c tb δ B) (hr : ∀ x y, A x → B y → RD2 r x y R) : Ev c (tOp r ta tb) δ R := fun M σ H w s Q q => by
  refine ha M σ H w s _ fun v x H1 e1 w1 r1 a1 => ?_
  refine hb M σ H1 w1 (s.ex w e1) _ fun u y H2 e2 w2 r2 b2 => ?_
  exact hr x y a1 b2 M H2 v u w2.trk (r1.ex w1 e2) r2 Q fun z d H3 e3 r3 hd => q z d H3 ((e1.trans e2).trans e3.wide) (w2.ex e3) r3 hd
theorem ev_op {r : R2} (ha : EvD c ta δ x) (hb : EvD c tb δ y) (hr : RD2 r x y R) : Ev c (tOp r ta tb) δ R := ev_opP ha hb fun _ _ e1 e2 => by rw [e1, e2]; exact hr
theorem ev_unP {r : V → Hp → VK → Prop} (ha : Ev c ta δ A) (hr : ∀ x, A x → RD1 r x R) : Ev c (tUn r ta) δ R := fun M σ H w s Q q => by
  refine ha M σ H w s _ fun v x H1 e1 w1 r1 a1 => ?_
  exact hr x a1 M H1 v w1.trk r1 Q fun z d H3 e3 r3 hd => q z d H3 (e1.trans e3.wide) (w1.ex e3) r3 hd
theorem ev_un {r : V → Hp → VK → Prop} (ha : EvD c ta δ x) (hr : RD1 r x R) : Ev c (tUn r ta) δ R := ev_unP ha fun _ e1 => by rw [e1]; exact hr
theorem ev_cbP {r : List V → Hp → VK → Prop} {A : List PyData → Prop} (ha : EvA c tl δ A) (hr : ∀ xs, A xs → RDL r xs R) : Ev c (tCB r tl) δ R := fun M σ H w s Q q => by
  refine ha M σ H w s _ fun vs xs H1 e1 w1 r1 a1 => ?_
  exact hr xs a1 M H1 vs w1.trk r1 Q fun z d H3 e3 r3 hd => q z d H3 (e1.trans e3.wide) (w1.ex e3) r3 hd
theorem ev_cb {r : List V → Hp → VK → Prop} (ha : EvL c tl δ xs) (hr : RDL r xs R) : Ev c (tCB r tl) δ R := ev_cbP ha fun _ e1 => by rw [e1]; exact hr

/-! ### argument lists, displays -/
theorem ea_nil : EvL c tNil δ [] := fun M σ H w s Q q => q _ _ H (Ex.refl c H) w .nil rfl
theorem ea_consP {B R : List PyData → Prop} (ha : Ev c ta δ A) (hb : EvA c tr δ B) (k : ∀ x xs, A x → B xs → R (x :: xs)) : EvA c (tCons ta tr) δ R := fun M σ H w s Q q => by
  refine ha M σ H w s _ fun v x H1 e1 w1 r1 a1 => ?_
  refine hb M σ H1 w1 (s.ex w e1) _ fun vs xs H2 e2 w2 r2 b2 => ?_
  exact q (v :: vs) (x :: xs) H2 (e1.trans e2) w2 (.cons (r1.ex w1 e2) r2) (k x xs a1 b2)
theorem ea_cons (ha : EvD c ta δ x) (hb : EvL c tr δ xs) : EvL c (tCons ta tr) δ (x :: xs) := ea_consP ha hb fun _ _ e1 e2 => by rw [e1, e2]
theorem big_le {n : Nat} (h : n ≤ 100000) : n ≤ sizeLine := Nat.le_trans h (by decide)
theorem big_lt {n : Nat} (h : n < 100000) : n < sizeLine := Nat.lt_of_lt_of_le h (by decide)
theorem ev_tupP {B : List PyData → Prop} (ha : EvA c tl δ B) (k : ∀ xs, B xs → xs.length ≤ 100000 ∧ R (.tuple xs)) : Ev c (tTup tl) δ R := fun M σ H w s Q q => by
  refine ha M σ H w s _ fun vs xs H1 e1 w1 r1 a1 => ?_
  obtain ⟨hl, hR⟩ := k xs a1
  refine ⟨by rw [r1.length]; exact big_le hl, fun p hp => ?_⟩
  have e2 : Ex none H1 (upd H1 p (.tup vs)) := Ex.new hp
  have w2 := w1.ex e2
  exact q _ _ _ (e1.trans e2.wide) w2 (.tup (w1.fresh hp) upd_same (r1.ex w1 e2.wide)) hR
theorem ev_tup (ha : EvL c tl δ xs) (hl : xs.length ≤ 100000) : EvD c (tTup tl) δ (.tuple xs) := ev_tupP ha fun _ e => by rw [e]; exact ⟨hl, rfl⟩
theorem ev_lstP {B : List PyData → Prop} (ha : EvA c tl δ B) (k : ∀ xs, B xs → xs.length ≤ 100000 ∧ R (.list xs)) : Ev c (tLst tl) δ R := fun M σ H w s Q q => by
  refine ha M σ H w s _ fun vs xs H1 e1 w1 r1 a1 => ?_
  obtain ⟨hl, hR⟩ := k xs a1
  refine ⟨by rw [r1.length]; exact big_le hl, fun p hp => ?_⟩
  have e2 : Ex none H1 (upd H1 p (.lst vs)) := Ex.new hp
  have w2 := w1.ex e2
  exact q _ _ _ (e1.trans e2.wide) w2 (.lst (w1.fresh hp) upd_same (r1.ex w1 e2.wide)) hR
theorem ev_lst (ha : EvL c tl δ xs) (hl : xs.length ≤ 100000) : EvD c (tLst tl) δ (.list xs) := ev_lstP ha fun _ e => by rw [e]; exact ⟨hl, rfl⟩

/-! ### tests, and, or, not, if, chains -/
theorem et_val {B : Bool → Prop} (h : Ev c te δ fun d => ∃ b, d = .bool b ∧ B b) : EvT c (tB te) δ B := fun M σ H w s Q q => by
  refine h M σ H w s _ fun v d H1 e1 w1 r1 ⟨b, e, hb⟩ => ?_
  subst e
  cases r1
  exact ⟨b, rfl, q b H1 e1 w1 hb⟩
theorem et_b {b : Bool} (h : EvD c te δ (.bool b)) : EvB c (tB te) δ b := et_val (h.imp fun d e => ⟨b, e, rfl⟩)
theorem et_not {B : Bool → Prop} (h : EvT c tt δ fun b => B (!b)) : EvT c (tNot tt) δ B := fun M σ H w s Q q => h M σ H w s _ fun b H1 e1 w1 hb => q (!b) H1 e1 w1 hb
theorem et_notB {b : Bool} (h : EvB c tt δ b) : EvB c (tNot tt) δ (!b) := et_not (h.imp fun x e => by rw [e])
theorem et_and {a b : Bool} (h1 : EvB c tt δ a) (h2 : a = true → EvB c tu δ b) : EvB c (tAnd tt tu) δ (a && b) := fun M σ H w s Q q => by
  refine h1 M σ H w s _ fun k H1 e1 w1 hk => ?_
  subst hk
  cases k with
  | true =>
    show tu σ H1 Q
    exact h2 rfl M σ H1 w1 (s.ex w e1) Q fun b H2 e2 w2 hb => q b H2 (e1.trans e2) w2 (by rw [hb] <;> rfl)
  | false =>
    show Q false H1
    exact q false H1 e1 w1 rfl
theorem et_or {a b : Bool} (h1 : EvB c tt δ a) (h2 : a = false → EvB c tu δ b) : EvB c (tOr tt tu) δ (a || b) := fun M σ H w s Q q => by
  refine h1 M σ H w s _ fun k H1 e1 w1 hk => ?_
  subst hk
  cases k with
  | false =>
    show tu σ H1 Q
    exact h2 rfl M σ H1 w1 (s.ex w e1) Q fun b H2 e2 w2 hb => q b H2 (e1.trans e2) w2 (by rw [hb] <;> rfl)
  | true =>
    show Q true H1
    exact q true H1 e1 w1 rfl
/-- or where nothing of the first parts holds -/
theorem et_or0 (h1 : EvB c tt δ false) (h2 : EvB c tu δ false) : EvB c (tOr tt tu) δ false := et_or h1 fun _ => h2
theorem ev_and {a b : Bool} (h1 : EvD c ta δ (.bool a)) (h2 : a = true → EvD c tb δ (.bool b)) : EvD c (tAndV ta tb) δ (.bool (a && b)) := fun M σ H w s Q q => by
  refine h1 M σ H w s _ fun v d H1 e1 w1 r1 hk => ?_
  subst hk
  cases r1
  refine ⟨a, rfl, ?_⟩
  cases a with
  | true =>
    show tb σ H1 Q
    exact h2 rfl M σ H1 w1 (s.ex w e1) Q fun v d H2 e2 w2 r2 hb => q v d H2 (e1.trans e2) w2 r2 (by rw [hb] <;> rfl)
  | false =>
    show Q (.bl false) H1
    exact q _ _ H1 e1 w1 (.bl false) rfl
theorem ev_or {a b : Bool} (h1 : EvD c ta δ (.bool a)) (h2 : a = false → EvD c tb δ (.bool b)) : EvD c (tOrV ta tb) δ (.bool (a || b)) := fun M σ H w s Q q => by
  refine h1 M σ H w s _ fun v d H1 e1 w1 r1 hk => ?_
  subst hk
  cases r1
  refine ⟨a, rfl, ?_⟩
  cases a with
  | false =>
    show tb σ H1 Q
    exact h2 rfl M σ H1 w1 (s.ex w e1) Q fun v d H2 e2 w2 r2 hb => q v d H2 (e1.trans e2) w2 r2 (by rw [hb] <;> rfl)
  | true =>
    show Q (.bl true) H1
    exact q _ _ H1 e1 w1 (.bl true) rfl
theorem ev_not {a : Bool} (h1 : EvD c ta δ (.bool a)) : EvD c (tNotV ta) δ (.bool (!a)) := fun M σ H w s Q q => by
  refine h1 M σ H w s _ fun v d H1 e1 w1 r1 hk => ?_
  subst hk
  cases r1
  exact ⟨a, rfl, q _ _ H1 e1 w1 (.bl (!a)) rfl⟩
theorem ev_ifP {B : Bool → Prop} (h : EvT c tt δ B) (h1 : B true → Ev c ta δ P) (h2 : B false → Ev c tb δ P) : Ev c (tIf tt ta tb) δ P := fun M σ H w s Q q => by
  refine h M σ H w s _ fun k H1 e1 w1 hk => ?_
  cases k with
  | true =>
    show ta σ H1 Q
    exact h1 hk M σ H1 w1 (s.ex w e1) Q fun v d H2 e2 w2 r2 hb => q v d H2 (e1.trans e2) w2 r2 hb
  | false =>
    show tb σ H1 Q
    exact h2 hk M σ H1 w1 (s.ex w e1) Q fun v d H2 e2 w2 r2 hb => q v d H2 (e1.trans e2) w2 r2 hb
theorem ev_if {b : Bool} (h : EvB c tt δ b) (h1 : b = true → Ev c ta δ P) (h2 : b = false → Ev c tb δ P) : Ev c (tIf tt ta tb) δ P :=
  ev_ifP h (fun e => h1 e.symm) fun e => h2 e.symm
theorem ev_chain {r r' : R2} {a b : Bool} (h1 : EvD c ta δ x) (h2 : EvD c tb δ y) (h3 : EvD c tx δ z) (hr : RD2 r x y fun d => d = .bool a) (hr' : a = true → RD2 r' y z fun d => d = .bool b) : EvD c (tChain r r' ta tb tx) δ (.bool (a && b)) := fun M σ H w s Q q => by
  refine h1 M σ H w s _ fun v d H1 e1 w1 r1 hk => ?_
  subst hk
  refine h2 M σ H1 w1 (s.ex w e1) _ fun u d2 H2 e2 w2 r2 hk => ?_
  subst hk
  refine hr M H2 v u w2.trk (r1.ex w1 e2) r2 _ fun k d3 H3 e3 r3 hk => ?_
  subst hk
  have w3 := w2.ex e3
  cases r3
  refine ⟨a, rfl, ?_⟩
  cases a with
  | true =>
    show tx σ H3 _
    refine h3 M σ H3 w3 (((s.ex w e1).ex w1 e2).ex w2 e3.wide) _ fun t d4 H4 e4 w4 r4 hk => ?_
    subst hk
    refine hr' rfl M H4 u t w4.trk ((r2.ex w2 e3.wide).ex w3 e4) r4 Q fun k d5 H5 e5 r5 hk => ?_
    exact q _ _ H5 ((((e1.trans e2).trans e3.wide).trans e4).trans e5.wide) (w4.ex e5) r5 (by rw [hk] <;> rfl)
  | false =>
    show Q (.bl false) H3
    exact q _ _ H3 ((e1.trans e2).trans e3.wide) w3 (.bl false) rfl

/-! ### what operators give -/
theorem rd_add {i j : Int} : RD2 (rI0 fun i j => .int (i + j)) (.int i) (.int j) fun d => d = .int (i + j) := fun M H v u t r1 r2 Q q => by
  cases r1
  cases r2
  exact ⟨i, j, rfl, rfl, q _ _ H (Ex.refl _ H) (.int _) rfl⟩
theorem rd_sub {i j : Int} : RD2 (rI0 fun i j => .int (i - j)) (.int i) (.int j) fun d => d = .int (i - j) := fun M H v u t r1 r2 Q q => by
  cases r1
  cases r2
  exact ⟨i, j, rfl, rfl, q _ _ H (Ex.refl _ H) (.int _) rfl⟩
theorem rd_I {C : Int → Int → Prop} {g : Int → Int → Int} {i j : Int} (hc : C i j) : RD2 (rI C fun i j => .int (g i j)) (.int i) (.int j) fun d => d = .int (g i j) := fun M H v u t r1 r2 Q q => by
  cases r1
  cases r2
  exact ⟨i, j, rfl, rfl, hc, q _ _ H (Ex.refl _ H) (.int _) rfl⟩
theorem rd_cmp {g : Int → Int → Bool} {i j : Int} : RD2 (rI0 fun i j => .bl (g i j)) (.int i) (.int j) fun d => d = .bool (g i j) := fun M H v u t r1 r2 Q q => by
  cases r1
  cases r2
  exact ⟨i, j, rfl, rfl, q _ _ H (Ex.refl _ H) (.bl _) rfl⟩
theorem rd_neg {i : Int} : RD1 (rU fun i => .int (-i)) (.int i) fun d => d = .int (-i) := fun M H v t r1 Q q => by
  cases r1
  exact ⟨i, rfl, q _ _ H (Ex.refl _ H) (.int _) rfl⟩
/-- + : two ints, two lists -/
def rAddA : R2 := fun x y H Q => rI0 (fun i j => .int (i + j)) x y H Q ∨ rCat x y H Q
theorem op_addA {X : Cx} : OpR X (binaryOp .Add) rAddA := op_add.or op_cat
theorem rd_addI {i j : Int} : RD2 rAddA (.int i) (.int j) fun d => d = .int (i + j) := fun M H v u t r1 r2 Q q => .inl (rd_add M H v u t r1 r2 Q q)
theorem rd_addL {xs ys : List PyData} (hl : xs.length + ys.length ≤ 100000) : RD2 rAddA (.list xs) (.list ys) fun d => d = .list (xs ++ ys) := fun M H v u t r1 r2 Q q => by
  cases r1 with
  | lst n1 e1 s1 =>
    cases r2 with
    | lst n2 e2 s2 =>
      refine .inr ⟨_, _, _, _, rfl, rfl, e1, e2, by rw [s1.length, s2.length]; exact big_le hl, fun p hp => ?_⟩
      exact q _ _ _ (Ex.new hp) (.lst (fun m => t p m hp) upd_same (Rps.mono (fun _ _ m _ => m) (fun a o _ e => ex_none (Ex.new hp) e) _ (s1.append s2))) rfl
/-- == and != of data -/
theorem rd_eq {K : PySem.W.Frag} (hx : SeqAt.shaped x = true) (hy : SeqAt.shaped y = true) : RD2 (rEqD K) x y fun d => d = .bool (PyData.eqv x y) := fun M H v u t r1 r2 Q q =>
  ⟨x, y, r1.dp, r2.dp, hx, hy, q _ _ H (Ex.refl _ H) (.bl _) rfl⟩
theorem rd_ne {K : PySem.W.Frag} (hx : SeqAt.shaped x = true) (hy : SeqAt.shaped y = true) : RD2 (rNeD K) x y fun d => d = .bool (!PyData.eqv x y) := fun M H v u t r1 r2 Q q =>
  ⟨x, y, r1.dp, r2.dp, hx, hy, q _ _ H (Ex.refl _ H) (.bl _) rfl⟩
/-- x[i] : list, tuple, text -/
theorem ixN_lt {n : Nat} {i : Int} {j : Nat} (h : ixN n i = some j) : j < n := (ixN_seq h).2.1
theorem atI_rep {M : Addr → Prop} {H : Hp} {vs : List V} {ds : List PyData} {i : Int} {d : PyData} (r : Rps M H vs ds) (h : atI ds i = some d) : ∃ v, atI vs i = some v ∧ Rp M H v d := by
  unfold atI at h ⊢
  rw [r.length]
  cases e : ixN ds.length i with
  | none =>
    rw [e] at h
    cases h
  | some j =>
    rw [e] at h
    obtain ⟨v, h1, h2⟩ := r.get (i := j) (d := d) h
    exact ⟨v, h1, h2⟩
theorem rd_ixL {K : PySem.W.Frag} {ds : List PyData} {i : Int} (h : atI ds i = some d) : RD2 (rIx K) (.list ds) (.int i) fun z => z = d := fun M H v u t r1 r2 Q q => by
  cases r2
  cases r1 with
  | lst n e s =>
    obtain ⟨w, h1, h2⟩ := atI_rep s h
    exact .inl ⟨_, _, i, w, rfl, rfl, SqL.of e, h1, q w d H (Ex.refl _ H) h2 rfl⟩
theorem rd_ixT {K : PySem.W.Frag} {ds : List PyData} {i : Int} (h : atI ds i = some d) : RD2 (rIx K) (.tuple ds) (.int i) fun z => z = d := fun M H v u t r1 r2 Q q => by
  cases r2
  cases r1 with
  | tup n e s =>
    obtain ⟨w, h1, h2⟩ := atI_rep s h
    exact .inr (.inl ⟨_, _, i, w, rfl, rfl, SqT.of e, h1, q w d H (Ex.refl _ H) h2 rfl⟩)
theorem rd_ixS {K : PySem.W.Frag} {z : Str} {i : Int} {k : Nat} (hl : z.length ≤ 100000) (h : atI z.cps.toList i = some k) : RD2 (rIx K) (.str z) (.int i) fun d => d = .str ⟨#[k]⟩ := fun M H v u t r1 r2 Q q => by
  cases r2
  cases r1
  exact .inr (.inr ⟨z, i, k, rfl, rfl, big_le hl, h, q _ _ H (Ex.refl _ H) (.str _) rfl⟩)
/-- < : ints, texts, tuples of ints -/
def rLtA (K : PySem.W.Frag) : R2 := fun x y H Q => (rI0 (fun i j => .bl (decide (i < j))) x y H Q ∨ ∃ i j, x = .str i ∧ y = .str j ∧ Q (.bl (decide (i.cps.toList < j.cps.toList))) H) ∨ rLtT K x y H Q
theorem op_ltA {X : Cx} (hu : X.A.units < cLine) : OpR X (compareOp .Lt) (rLtA X.K) := (op_lt.or op_lt_str).or (op_ltT hu)
theorem rd_ltI {K : PySem.W.Frag} {i j : Int} : RD2 (rLtA K) (.int i) (.int j) fun d => d = .bool (decide (i < j)) := fun M H v u t r1 r2 Q q => .inl (.inl (rd_cmp (g := fun i j => decide (i < j)) M H v u t r1 r2 Q q))
theorem rd_ltS {K : PySem.W.Frag} {i j : Str} : RD2 (rLtA K) (.str i) (.str j) fun d => d = .bool (decide (i.cps.toList < j.cps.toList)) := fun M H v u t r1 r2 Q q => by
  cases r1
  cases r2
  exact .inl (.inr ⟨i, j, rfl, rfl, q _ _ H (Ex.refl _ H) (.bl _) rfl⟩)
theorem rps_ints {M : Addr → Prop} {H : Hp} : ∀ {ns : List Int} {vs : List V}, Rps M H vs (ns.map .int) → vs = ns.map V.int
  | [], _, .nil => rfl
  | n :: ns, _, .cons r t => by
    cases r
    rw [rps_ints t] <;> rfl
theorem rps_strs {M : Addr → Prop} {H : Hp} : ∀ {ns : List Str} {vs : List V}, Rps M H vs (ns.map .str) → vs = ns.map V.str
  | [], _, .nil => rfl
  | n :: ns, _, .cons r t => by
    cases r
    rw [rps_strs t] <;> rfl
theorem rps_bools {M : Addr → Prop} {H : Hp} : ∀ {ns : List Bool} {vs : List V}, Rps M H vs (ns.map .bool) → vs = ns.map V.bl
  | [], _, .nil => rfl
  | n :: ns, _, .cons r t => by
    cases r
    rw [rps_bools t] <;> rfl
theorem rd_ltT {K : PySem.W.Frag} {ns ms : List Int} : RD2 (rLtA K) (.tuple (ns.map .int)) (.tuple (ms.map .int)) fun d => d = .bool (HT.lexLt ns ms) := fun M H v u t r1 r2 Q q => by
  cases r1 with
  | tup n1 e1 s1 =>
    cases r2 with
    | tup n2 e2 s2 =>
      rw [rps_ints s1] at e1
      rw [rps_ints s2] at e2
      exact .inr ⟨_, _, ns, ms, rfl, rfl, SqT.of e1, SqT.of e2, q _ _ H (Ex.refl _ H) (.bl _) rfl⟩
/-- in, not in : a list of any data, a tuple of flat things, a sign in a text -/
def rInA (K : PySem.W.Frag) : R2 := fun x y H Q => (rInD K x y H Q ∨ rIn K false x y H Q) ∨ (∃ (k : Nat) (z : Str), x = .str ⟨#[k]⟩ ∧ y = .str z ∧ Q (.bl (decide (k ∈ z.cps.toList))) H)
def rNotInA (K : PySem.W.Frag) : R2 := fun x y H Q => rNotInD K x y H Q ∨ rIn K true x y H Q
theorem op_inA {X : Cx} (hu : X.A.units + 65 < cLine) : OpR X (compareOp .In) (rInA X.K) := ((op_inD hu).or op_in_seq).or op_in_sign
theorem op_notInA {X : Cx} (hu : X.A.units + 65 < cLine) : OpR X (compareOp .NotIn) (rNotInA X.K) := (op_notInD hu).or op_notIn_seq
theorem rd_inL {K : PySem.W.Frag} (hx : SeqAt.shaped x = true) (hy : SeqAt.shaped (.list ds) = true) : RD2 (rInA K) x (.list ds) fun d => d = .bool (ds.any fun z => PyData.eqv z x) := fun M H v u t r1 r2 Q q =>
  .inl (.inl ⟨x, ds, r1.dp, r2.dp, hx, hy, q _ _ H (Ex.refl _ H) (.bl _) rfl⟩)
theorem rd_notInL {K : PySem.W.Frag} (hx : SeqAt.shaped x = true) (hy : SeqAt.shaped (.list ds) = true) : RD2 (rNotInA K) x (.list ds) fun d => d = .bool (!ds.any fun z => PyData.eqv z x) := fun M H v u t r1 r2 Q q =>
  .inl ⟨x, ds, r1.dp, r2.dp, hx, hy, q _ _ H (Ex.refl _ H) (.bl _) rfl⟩
theorem inV_strs (x : Str) : ∀ ns : List Str, inV (.str x) (ns.map V.str) = decide (x ∈ ns)
  | [] => rfl
  | n :: ns => by
    show (eqV (.str n) (.str x) || inV (.str x) (ns.map V.str)) = _
    rw [inV_strs x ns]
    by_cases h : x = n
    · subst h
      have e : eqV (.str x) (.str x) = true := by simp [eqV]
      rw [e, Bool.true_or]
      exact (decide_eq_true List.mem_cons_self).symm
    · have e : eqV (.str n) (.str x) = false := by
        have h' : ¬ n = x := fun z => h z.symm
        simp [eqV, h']
      rw [e, Bool.false_or]
      by_cases hm : x ∈ ns
      · rw [decide_eq_true hm, decide_eq_true (List.mem_cons_of_mem _ hm)]
      · rw [decide_eq_false hm, decide_eq_false (by simp [h, hm])]
theorem flat_strs (ns : List Str) : (ns.map V.str).all flatV = true := by
  rw [List.all_map, List.all_eq_true]
  intro x _
  rfl
theorem rd_inTs {K : PySem.W.Frag} {n : Str} {ns : List Str} : RD2 (rInA K) (.str n) (.tuple (ns.map .str)) fun d => d = .bool (decide (n ∈ ns)) := fun M H v u t r1 r2 Q q => by
  cases r1
  cases r2 with
  | tup n2 e2 s2 =>
    rw [rps_strs s2] at e2
    refine .inl (.inr ⟨_, _, rfl, .inr (SqT.of e2), rfl, flat_strs ns, ?_⟩)
    show Q (.bl (inV (.str n) (ns.map V.str))) H
    rw [inV_strs]
    exact q _ _ H (Ex.refl _ H) (.bl _) rfl
theorem rd_inLs {K : PySem.W.Frag} {n : Str} {ns : List Str} : RD2 (rInA K) (.str n) (.list (ns.map .str)) fun d => d = .bool (decide (n ∈ ns)) := fun M H v u t r1 r2 Q q => by
  cases r1
  cases r2 with
  | lst n2 e2 s2 =>
    rw [rps_strs s2] at e2
    refine .inl (.inr ⟨_, _, rfl, .inl (SqL.of e2), rfl, flat_strs ns, ?_⟩)
    show Q (.bl (inV (.str n) (ns.map V.str))) H
    rw [inV_strs]
    exact q _ _ H (Ex.refl _ H) (.bl _) rfl
theorem rd_notInLs {K : PySem.W.Frag} {n : Str} {ns : List Str} : RD2 (rNotInA K) (.str n) (.list (ns.map .str)) fun d => d = .bool (!decide (n ∈ ns)) := fun M H v u t r1 r2 Q q => by
  cases r1
  cases r2 with
  | lst n2 e2 s2 =>
    rw [rps_strs s2] at e2
    refine .inr ⟨_, _, rfl, .inl (SqL.of e2), rfl, flat_strs ns, ?_⟩
    show Q (.bl (!inV (.str n) (ns.map V.str))) H
    rw [inV_strs]
    exact q _ _ H (Ex.refl _ H) (.bl _) rfl
theorem rd_inSign {K : PySem.W.Frag} {k : Nat} {z : Str} : RD2 (rInA K) (.str ⟨#[k]⟩) (.str z) fun d => d = .bool (decide (k ∈ z.cps.toList)) := fun M H v u t r1 r2 Q q => by
  cases r1
  cases r2
  exact .inr ⟨k, z, rfl, rfl, q _ _ H (Ex.refl _ H) (.bl _) rfl⟩

/-! ### built-in calls -/
def rLen (K : PySem.W.Frag) : List V → Hp → VK → Prop := fun xs H Q => ∃ x n, xs = [x] ∧ LenV K x H n ∧ Q (.int n) H
theorem call_lenA {X : Cx} : CallR X (.builtin "len") (rLen X.K) := call_len
theorem rl_lenT {K : PySem.W.Frag} : RDL (rLen K) [.tuple ds] fun d => d = .int ds.length := fun M H vs t r Q q => by
  cases r with
  | cons r1 r2 =>
    cases r2
    cases r1 with
    | tup n e s => exact ⟨_, _, rfl, .inr ⟨_, SqT.of e, rfl⟩, by rw [s.length]; exact q _ _ H (Ex.refl _ H) (.int _) rfl⟩
theorem rl_lenL {K : PySem.W.Frag} : RDL (rLen K) [.list ds] fun d => d = .int ds.length := fun M H vs t r Q q => by
  cases r with
  | cons r1 r2 =>
    cases r2
    cases r1 with
    | lst n e s => exact ⟨_, _, rfl, .inl ⟨_, SqL.of e, rfl⟩, by rw [s.length]; exact q _ _ H (Ex.refl _ H) (.int _) rfl⟩
theorem rl_lenS {K : PySem.W.Frag} {z : Str} (hl : z.length ≤ 100000) : RDL (rLen K) [.str z] fun d => d = .int z.length := fun M H vs t r Q q => by
  cases r with
  | cons r1 r2 =>
    cases r2
    cases r1
    exact ⟨_, _, rfl, ⟨big_le hl, rfl⟩, q _ _ H (Ex.refl _ H) (.int _) rfl⟩
def rListOf (K : PySem.W.Frag) : List V → Hp → VK → Prop := fun xs H Q => ∃ p ys, xs = [.ref p] ∧ (SqL K H p ys ∨ SqT K H p ys) ∧ ∀ l, H l = none → Q (.ref l) (upd H l (.lst ys))
theorem call_listA {X : Cx} : CallR X (.type "list") (rListOf X.K) := call_list_of
theorem rl_list {K : PySem.W.Frag} (x : PyData) (hx : x = .list ds ∨ x = .tuple ds) : RDL (rListOf K) [x] fun d => d = .list ds := fun M H vs t r Q q => by
  have fin : ∀ (ys : List V), Rps M H ys ds → ∀ l, H l = none → Q (.ref l) (upd H l (.lst ys)) := fun ys s l hl => by
    have k : Ex none H (upd H l (.lst ys)) := Ex.new hl
    exact q _ _ _ k (.lst (fun m => t l m hl) upd_same (Rps.mono (fun _ _ m _ => m) (fun a o _ e => ex_none k e) _ s)) rfl
  cases r with
  | cons r1 r2 =>
    cases r2
    rcases hx with e | e
    · subst e
      cases r1 with
      | lst n e s => exact ⟨_, _, rfl, .inl (SqL.of e), fin _ s⟩
    · subst e
      cases r1 with
      | tup n e s => exact ⟨_, _, rfl, .inr (SqT.of e), fin _ s⟩
def rTupleOf (K : PySem.W.Frag) : List V → Hp → VK → Prop := fun xs H Q => ∃ p ys, xs = [.ref p] ∧ ((SqL K H p ys ∧ ∀ l, H l = none → Q (.ref l) (upd H l (.tup ys))) ∨ (SqT K H p ys ∧ Q (.ref p) H))
theorem call_tupleA {X : Cx} : CallR X (.type "tuple") (rTupleOf X.K) := call_tuple_of
theorem rl_tuple {K : PySem.W.Frag} : RDL (rTupleOf K) [.list ds] fun d => d = .tuple ds := fun M H vs t r Q q => by
  cases r with
  | cons r1 r2 =>
    cases r2
    cases r1 with
    | lst n e s =>
      refine ⟨_, _, rfl, .inl ⟨SqL.of e, fun l hl => ?_⟩⟩
      exact q _ _ _ (Ex.new hl) (.tup (fun m => t l m hl) upd_same (Rps.mono (fun _ _ m _ => m) (fun a o _ e => ex_none (Ex.new hl) e) _ s)) rfl
theorem rl_all {K : PySem.W.Frag} {bs : List Bool} : RDL (rAll K) [.list (bs.map .bool)] fun d => d = .bool (bs.all id) := fun M H vs t r Q q => by
  cases r with
  | cons r1 r2 =>
    cases r2
    cases r1 with
    | lst n e s =>
      rw [rps_bools s] at e
      exact ⟨_, bs, rfl, SqL.of e, q _ _ H (Ex.refl _ H) (.bl _) rfl⟩
def rInt1 : List V → Hp → VK → Prop := fun xs H Q => (∃ i, xs = [.int i] ∧ Q (.int i) H) ∨ ∃ k, xs = [.bl k] ∧ Q (.int (if k then 1 else 0)) H
theorem call_intA {X : Cx} : CallR X (.type "int") rInt1 := call_int1
theorem rl_int {i : Int} : RDL rInt1 [.int i] fun d => d = .int i := fun M H vs t r Q q => by
  cases r with
  | cons r1 r2 =>
    cases r2
    cases r1
    exact .inl ⟨i, rfl, q _ _ H (Ex.refl _ H) (.int _) rfl⟩
def rAbs : List V → Hp → VK → Prop := fun xs H Q => ∃ i, xs = [.int i] ∧ Q (.int (if i < 0 then -i else i)) H
theorem call_absA {X : Cx} : CallR X (.builtin "abs") rAbs := call_abs
theorem rl_abs {i : Int} : RDL rAbs [.int i] fun d => d = .int (if i < 0 then -i else i) := fun M H vs t r Q q => by
  cases r with
  | cons r1 r2 =>
    cases r2
    cases r1
    exact ⟨i, rfl, q _ _ H (Ex.refl _ H) (.int _) rfl⟩
/-! isinstance: the class's name -/
def tyOf : PyData → String
  | .none => "NoneType"
  | .bool _ => "bool"
  | .int _ => "int"
  | .str _ => "str"
  | .list _ => "list"
  | .tuple _ => "tuple"
  | .dict _ => "dict"
theorem Rp.ty {M : Addr → Prop} {H : Hp} {K : PySem.W.Frag} {v : V} {d : PyData} (r : Rp M H v d) : TyX K H v (.type (tyOf d)) := by
  cases r with
  | non => exact .base .non
  | bl b => exact .base (.bl b)
  | int i => exact .base (.int i)
  | str x => exact .base (.str x)
  | lst n e s => exact .base (.lst e)
  | tup n e s => exact .base (.tup e)
/-- isinstance(x, T) with T a written class -/
theorem ev_isi {T : String} {b : Bool} (h : EvD c ta δ x) (hk : kitB (tyOf x) T = some b) : EvD c (tCB (rIsi K) (tCons ta (tCons (tC (.ty T)) tNil))) δ (.bool b) := fun M σ H w s Q q => by
  refine h M σ H w s _ fun v d H1 e1 w1 r1 hk1 => ?_
  subst hk1
  exact ⟨v, .ty T, _, _, b, rfl, .ty T, r1.ty, kit_ty hk, q _ _ H1 e1 w1 (.bl b) rfl⟩
/-- a method of a text without arguments -/
theorem ev_meth0 {r : V → List V → Hp → VK → Prop} {z : Str} (h : EvD c ta δ (.str z)) (hr : ∀ (H : Hp) (Q : VK), (∀ v d, Rp (fun _ => False) H v d → R d → Q v H) → r (.str z) [] H Q) (hR : ∀ (M : Addr → Prop) H v d, Rp (fun _ => False) H v d → R d → Rp M H v d) :
    Ev c (tBM0 K "str" r ta) δ R := fun M σ H w s Q q => by
  refine h M σ H w s _ fun v d H1 e1 w1 r1 hk1 => ?_
  subst hk1
  cases r1
  exact ⟨rfl, hr H1 Q fun v d rr hd => q v d H1 e1 w1 (hR M H1 v d rr hd) hd⟩
end
end Sh

set_option maxHeartbeats 4000000
/-! Layer C: slices, targets, walks, comprehensions, statements, calls. -/
namespace Sh
open PySem PySem.Spec PyProof.Rows L2

section
variable {c : Option Addr} {te ta tb tx : TE} {tt tu : TT} {tl tr : TA} {δ : List Ds} {P A B R : PyData → Prop} {i : Nat} {d x y z : PyData} {ds xs : List PyData} {K : PySem.W.Frag}

/-! ### slices -/
def EvO (c : Option Addr) (to : TO) (δ : List Ds) (P : Option Int → Prop) : Prop :=
  ∀ (M : Addr → Prop) (σ : L2.St) (H : Hp), Wd c M H → Sl M H σ δ → ∀ Q : Option Int → Hp → Prop, (∀ b H', Ex c H H' → Wd c M H' → P b → Q b H') → to σ H Q
theorem eo_none : EvO c tNoPart δ fun o => o = none := fun M σ H w s Q q => q _ H (Ex.refl c H) w rfl
theorem eo_some {P : Int → Prop} (h : Ev c te δ fun d => ∃ i, d = .int i ∧ P i) : EvO c (tPart te) δ fun o => ∃ i, o = some i ∧ P i := fun M σ H w s Q q => by
  refine h M σ H w s _ fun v d H1 e1 w1 r1 ⟨i, hk1, hp⟩ => ?_
  subst hk1
  cases r1
  exact ⟨i, rfl, q _ H1 e1 w1 ⟨i, rfl, hp⟩⟩
def cutD (xs : List PyData) (lo hi : Option Int) : List PyData := (xs.drop (HT.sIx xs.length 0 lo)).take (HT.sIx xs.length xs.length hi - HT.sIx xs.length 0 lo)
theorem cut_rep {M : Addr → Prop} {H : Hp} {vs : List V} (s : Rps M H vs ds) (lo hi : Option Int) : Rps M H (cutV vs lo hi) (cutD ds lo hi) := by
  unfold cutV cutD
  rw [s.length]
  exact (s.drop _).take _
/-- a list, a tuple, cut -/
def rSlAny (K : PySem.W.Frag) : V → Option Int → Option Int → Hp → VK → Prop := fun x lo hi H Q => rSlL K x lo hi H Q ∨ rSlA K x lo hi H Q
theorem sl_any {X : Cx} : SlR X (rSlAny X.K) := sl_list.or sl_tupA
theorem ev_slice {tlo thi : TO} {A B : Option Int → Prop} (h : EvD c te δ x) (hx : x = .list ds ∨ x = .tuple ds) (hl : EvO c tlo δ A) (hh : EvO c thi δ B)
    (k : ∀ lo hi, A lo → B hi → (x = .list ds → R (.list (cutD ds lo hi))) ∧ (x = .tuple ds → R (.tuple (cutD ds lo hi)))) : Ev c (tSl (rSlAny K) te tlo thi) δ R := fun M σ H w s Q q => by
  refine h M σ H w s _ fun v d H1 e1 w1 r1 hk => ?_
  subst hk
  refine hl M σ H1 w1 (s.ex w e1) _ fun lo H2 e2 w2 a2 => ?_
  refine hh M σ H2 w2 ((s.ex w e1).ex w1 e2) _ fun hi H3 e3 w3 a3 => ?_
  obtain ⟨kl, kt⟩ := k lo hi a2 a3
  have r3 := (r1.ex w1 e2).ex w2 e3
  have e0 := (e1.trans e2).trans e3
  rcases hx with e | e
  · have kl' := kl e
    subst e
    cases r3 with
    | lst n ea sa =>
      refine .inl ⟨_, _, rfl, SqL.of ea, fun p hp => ?_⟩
      exact q _ _ _ (e0.trans (Ex.new hp)) (w3.ex (Ex.new hp)) (.lst (w3.fresh hp) upd_same ((cut_rep sa lo hi).ex w3 (Ex.new hp))) kl'
  · have kt' := kt e
    subst e
    cases r3 with
    | tup n ea sa =>
      refine .inr ⟨_, _, rfl, SqT.of ea, fun ⟨h0, h1⟩ => ?_, fun _ p hp => ?_⟩
      · refine q _ _ H3 e0 w3 (.tup n ea sa) ?_
        have ec : cutD ds lo hi = ds := by
          unfold cutD
          rw [← sa.length, h0, h1, List.drop_zero, Nat.sub_zero, sa.length, List.take_length]
        rw [← ec]
        exact kt'
      · exact q _ _ _ (e0.trans (Ex.new hp)) (w3.ex (Ex.new hp)) (.tup (w3.fresh hp) upd_same ((cut_rep sa lo hi).ex w3 (Ex.new hp))) kt'

/-- c.islower() -/
def rLower : V → List V → Hp → VK → Prop := fun x xs H Q => ∃ a, x = .str a ∧ xs = [] ∧ True ∧ Q (.bl (Txt.islower a)) H
theorem mt_lower {X : Cx} : MtR X "str.islower" rLower := mt_islower
theorem ev_islower {z : Str} (h : EvD c te δ (.str z)) : EvD c (tBM0 K "str" rLower te) δ (.bool (Txt.islower z)) := fun M σ H w s Q q => by
  refine h M σ H w s _ fun v d H1 e1 w1 r1 hk1 => ?_
  subst hk1
  cases r1
  exact ⟨rfl, z, rfl, rfl, trivial, q _ _ H1 e1 w1 (.bl _) rfl⟩

/-! ### targets -/
theorem wipe_get (σ : L2.St) (i : Nat) : ∀ vs : List Nat, (L2.wipe σ vs)[i]? = if i ∈ vs then (σ[i]?).map (fun _ => (none : Option V)) else σ[i]?
  | [] => by simp [L2.wipe]
  | v :: vs => by
    show ((L2.wipe σ vs).set v none)[i]? = _
    rw [List.getElem?_set]
    by_cases h : v = i
    · subst h
      rw [if_pos rfl, if_pos List.mem_cons_self]
      rw [wipe_length]
      by_cases hl : v < σ.length
      · rw [if_pos hl, List.getElem?_eq_getElem hl] <;> rfl
      · rw [if_neg hl, List.getElem?_eq_none (Nat.le_of_not_lt hl)] <;> rfl
    · rw [if_neg h, wipe_get σ i vs]
      have e : (i ∈ v :: vs) ↔ i ∈ vs := by
        rw [List.mem_cons]
        exact ⟨fun z => z.elim (fun q => absurd q.symm h) id, .inr⟩
      by_cases hm : i ∈ vs
      · rw [if_pos hm, if_pos (e.mpr hm)]
      · rw [if_neg hm, if_neg (fun q => hm (e.mp q))]
theorem wipe_wipe (σ : L2.St) (vs : List Nat) : L2.wipe (L2.wipe σ vs) vs = L2.wipe σ vs := by
  apply List.ext_getElem?
  intro i
  rw [wipe_get, wipe_get]
  by_cases h : i ∈ vs
  · rw [if_pos h, if_pos h]
    cases σ[i]? <;> rfl
  · rw [if_neg h, if_neg h]
theorem wipe_set (σ : L2.St) {vs : List Nat} {j : Nat} (h : j ∈ vs) (v : Option V) : L2.wipe (σ.set j v) vs = L2.wipe σ vs := by
  apply List.ext_getElem?
  intro i
  rw [wipe_get, wipe_get]
  by_cases hi : i ∈ vs
  · rw [if_pos hi, if_pos hi, List.getElem?_set]
    by_cases e : j = i
    · subst e
      rw [if_pos rfl]
      by_cases hl : j < σ.length
      · rw [if_pos hl, List.getElem?_eq_getElem hl] <;> rfl
      · rw [if_neg hl, List.getElem?_eq_none (Nat.le_of_not_lt hl)]
    · rw [if_neg e]
  · rw [if_neg hi, if_neg hi, List.getElem?_set, if_neg fun e => hi (by rw [← e]; exact h)]
/-- the target g takes a value that stands for d: the slots J are set, δ becomes δ' -/
def Gb (g : TG) (J : List Nat) (d : PyData) (δ δ' : List Ds) : Prop :=
  ∀ (M : Addr → Prop) (H : Hp) (σ : L2.St) (v : V), Rp M H v d → Sl M H σ δ → ∀ Q : L2.St → Hp → Prop, (∀ σ', Sl M H σ' δ' → (∀ vs : List Nat, (∀ j ∈ J, j ∈ vs) → L2.wipe σ' vs = L2.wipe σ vs) → Q σ' H) → g v σ H Q
theorem gb_name {j : Nat} : Gb (gName j) [j] d δ (δ.set j (.dat d)) := fun M H σ v r s Q q =>
  q _ (s.dat r) fun vs h => wipe_set σ (h j (by simp)) _
theorem gb_tup2 {i j : Nat} {x y : PyData} : Gb (gTup K 2 (gCons (gName i) (gCons (gName j) gNil))) [i, j] (.tuple [x, y]) δ ((δ.set i (.dat x)).set j (.dat y)) := fun M H σ v r s Q q => by
  cases r with
  | tup n e sa =>
    cases sa with
    | cons r1 t1 =>
      cases t1 with
      | cons r2 t2 =>
        cases t2
        refine ⟨_, _, rfl, SqT.of e, rfl, _, _, rfl, _, _, rfl, rfl, ?_⟩
        exact q _ ((s.dat r1).dat r2) fun vs h => by
          rw [wipe_set _ (h j (by simp)), wipe_set _ (h i (by simp))]
theorem gb_tup3 {i j k : Nat} {x y z : PyData} : Gb (gTup K 3 (gCons (gName i) (gCons (gName j) (gCons (gName k) gNil)))) [i, j, k] (.tuple [x, y, z]) δ (((δ.set i (.dat x)).set j (.dat y)).set k (.dat z)) := fun M H σ v r s Q q => by
  cases r with
  | tup n e sa =>
    cases sa with
    | cons r1 t1 =>
      cases t1 with
      | cons r2 t2 =>
        cases t2 with
        | cons r3 t3 =>
          cases t3
          refine ⟨_, _, rfl, SqT.of e, rfl, _, _, rfl, _, _, rfl, _, _, rfl, rfl, ?_⟩
          exact q _ (((s.dat r1).dat r2).dat r3) fun vs h => by
            rw [wipe_set _ (h k (by simp)), wipe_set _ (h j (by simp)), wipe_set _ (h i (by simp))]
/-- a row of names -/
def gNames : List Nat → TGs
  | [] => gNil
  | i :: is => gCons (gName i) (gNames is)
def setDs (δ : List Ds) : List Nat → List PyData → List Ds
  | i :: is, d :: ds => setDs (δ.set i (.dat d)) is ds
  | _, _ => δ
theorem gnames_run : ∀ (is : List Nat) (ds : List PyData) (δ : List Ds) (M : Addr → Prop) (H : Hp) (σ : L2.St) (vs : List V), is.length = ds.length → Rps M H vs ds → Sl M H σ δ → ∀ Q : L2.St → Hp → Prop,
    (∀ σ', Sl M H σ' (setDs δ is ds) → (∀ ws : List Nat, (∀ j ∈ is, j ∈ ws) → L2.wipe σ' ws = L2.wipe σ ws) → Q σ' H) → gNames is vs σ H Q
  | [], [], δ, M, H, σ, _, _, r, s, Q, q => by
    cases r
    exact ⟨rfl, q σ s fun ws _ => rfl⟩
  | i :: is, d :: ds, δ, M, H, σ, _, hl, r, s, Q, q => by
    cases r with
    | cons r1 t1 =>
      refine ⟨_, _, rfl, gnames_run is ds (δ.set i (.dat d)) M H _ _ (by simpa using hl) t1 (s.dat r1) Q fun σ' s' hw => ?_⟩
      exact q σ' s' fun ws h => by
        rw [hw ws fun j hj => h j (List.mem_cons_of_mem _ hj), wipe_set _ (h i List.mem_cons_self)]
  | [], _ :: _, _, _, _, _, _, hl, _, _, _, _ => by simp at hl
  | _ :: _, [], _, _, _, _, _, hl, _, _, _, _ => by simp at hl
theorem gb_unl {is : List Nat} {ds : List PyData} {n : Nat} (hl : is.length = ds.length) (hn : n = is.length) : Gb (gUnl K n (gNames is)) is (.list ds) δ (setDs δ is ds) := fun M H σ v r s Q q => by
  cases r with
  | lst n e sa => exact ⟨_, _, rfl, SqL.of e, by rw [sa.length, hn, hl], gnames_run is ds δ M H σ _ hl sa s Q q⟩

/-! ### walks -/
/-- the source gives items, how many and which is told by S -/
def Wk (c : Option Addr) (wi : TI) (δ : List Ds) (S : Nat → (Nat → PyData) → Prop) : Prop :=
  ∀ (M : Addr → Prop) (σ : L2.St) (H : Hp), Wd c M H → Sl M H σ δ → ∀ R : It → Hp → Prop,
    (∀ (J : It) (H1 : Hp) (n : Nat) (item : Nat → PyData), Ex c H H1 → Wd c M H1 → S n item →
      (∀ (i : Nat) (M' : Addr → Prop) (H2 : Hp), i < n → (∀ a o, M' a → H1 a = some o → M a) → (∀ a, M' a → H2 a ≠ none) → (∀ a o, ¬ M a → H1 a = some o → H2 a = some o) →
        J.go i H2 ∧ ∀ x H3, J.yld i H2 x H3 → Ex none H2 H3 ∧ Rp M' H3 x (item i)) →
      (∀ H2 : Hp, (∀ a o, ¬ M a → H1 a = some o → H2 a = some o) → J.stop n H2) → R J H1) → wi σ H R
def IsItems (ds : List PyData) (n : Nat) (item : Nat → PyData) : Prop := n = ds.length ∧ ∀ i, item i = ds.getD i .none
/-- a list or a tuple -/
def iSeq (K : PySem.W.Frag) (te : TE) : TI := fun σ H R => iList K te σ H R ∨ iTup K te σ H R
theorem pi_or {X : Cx} {tg e : Expr} {w1 w2 : TI} (h1 : PI X tg e w1) (h2 : PI X tg e w2) : PI X tg e (fun σ H R => w1 σ H R ∨ w2 σ H R) :=
  ⟨fun pins s σ H R I h => h.elim (fun q => h1.run pins s σ H R I q) fun q => h2.run pins s σ H R I q⟩
theorem pi_seq {X : Cx} {tg e : Expr} {te : TE} (h : PE X e te) : PI X tg e (iSeq X.K te) := pi_or (pi_list h) (pi_tup h)
theorem getD_of {ds : List PyData} {i : Nat} {d : PyData} (h : ds[i]? = some d) : ds.getD i .none = d := by
  rw [List.getD_eq_getElem?_getD, h] <;> rfl
theorem wk_listP {B : List PyData → Prop} (h : Ev c te δ fun d => ∃ ds, d = .list ds ∧ B ds) : Wk c (iSeq K te) δ fun n item => ∃ ds, B ds ∧ IsItems ds n item := fun M σ H w s R q => by
  refine .inl (h M σ H w s _ fun v dd H1 e1 w1 r1 ⟨ds, ed, hB⟩ => ?_)
  subst ed
  cases r1 with
  | lst n e sa =>
    refine ⟨_, rfl, ⟨_, SqL.of e⟩, ?_⟩
    refine q _ H1 ds.length (fun i => ds.getD i .none) e1 w1 ⟨ds, hB, rfl, fun _ => rfl⟩ (fun i M' H2 hi hM ht hk => ?_) fun H2 hk => ?_
    · have e2 := hk _ _ n e
      obtain ⟨v, hv, rv⟩ := sa.get (List.getElem?_eq_getElem hi)
      refine ⟨⟨_, v, SqL.of e2, hv⟩, fun x H3 y => ?_⟩
      obtain ⟨rfl, hy⟩ := y
      refine ⟨Ex.refl _ _, ?_⟩
      have ex := Option.some.inj ((hy _ (SqL.of e2)).symm.trans hv)
      show Rp M' _ x (ds.getD i .none)
      rw [ex, getD_of (List.getElem?_eq_getElem hi)]
      exact Rp.mono hM hk _ rv
    · exact ⟨_, SqL.of (hk _ _ n e), by rw [sa.length]; exact Nat.le_refl _⟩
theorem wk_tupP {B : List PyData → Prop} (h : Ev c te δ fun d => ∃ ds, d = .tuple ds ∧ B ds) : Wk c (iSeq K te) δ fun n item => ∃ ds, B ds ∧ IsItems ds n item := fun M σ H w s R q => by
  refine .inr (h M σ H w s _ fun v dd H1 e1 w1 r1 ⟨ds, ed, hB⟩ => ?_)
  subst ed
  cases r1 with
  | tup n e sa =>
    refine ⟨_, rfl, ⟨_, SqT.of e⟩, ?_⟩
    refine q _ H1 ds.length (fun i => ds.getD i .none) e1 w1 ⟨ds, hB, rfl, fun _ => rfl⟩ (fun i M' H2 hi hM ht hk => ?_) fun H2 hk => ?_
    · have e2 := hk _ _ n e
      obtain ⟨v, hv, rv⟩ := sa.get (List.getElem?_eq_getElem hi)
      refine ⟨⟨_, v, SqT.of e2, hv⟩, fun x H3 y => ?_⟩
      obtain ⟨rfl, hy⟩ := y
      refine ⟨Ex.refl _ _, ?_⟩
      have ex := Option.some.inj ((hy _ (SqT.of e2)).symm.trans hv)
      show Rp M' _ x (ds.getD i .none)
      rw [ex, getD_of (List.getElem?_eq_getElem hi)]
      exact Rp.mono hM hk _ rv
    · exact ⟨_, SqT.of (hk _ _ n e), by rw [sa.length]; exact Nat.le_refl _⟩
theorem Wk.imp {wi : TI} {S S' : Nat → (Nat → PyData) → Prop} (h : Wk c wi δ S) (k : ∀ n item, S n item → S' n item) : Wk c wi δ S' := fun M σ H w s R q =>
  h M σ H w s R fun J H1 n item e1 w1 hS go st => q J H1 n item e1 w1 (k n item hS) go st
theorem wk_list (h : EvD c te δ (.list ds)) : Wk c (iSeq K te) δ (IsItems ds) := (wk_listP (B := fun x => x = ds) (h.imp fun d e => ⟨ds, e, rfl⟩)).imp fun n item ⟨x, e, k⟩ => e ▸ k
theorem wk_tup (h : EvD c te δ (.tuple ds)) : Wk c (iSeq K te) δ (IsItems ds) := (wk_tupP (B := fun x => x = ds) (h.imp fun d e => ⟨ds, e, rfl⟩)).imp fun n item ⟨x, e, k⟩ => e ▸ k
/-- the signs of a text -/
def signs (z : Str) : List PyData := z.cps.toList.map fun k => .str ⟨#[k]⟩
theorem wk_str {z : Str} (h : EvD c te δ (.str z)) : Wk c (iStr te) δ (IsItems (signs z)) := fun M σ H w s R q => by
  refine h M σ H w s _ fun v dd H1 e1 w1 r1 ed => ?_
  subst ed
  cases r1
  refine ⟨z, rfl, ?_⟩
  have hl : (signs z).length = z.cps.size := by
    unfold signs
    rw [List.length_map, Array.length_toList]
  refine q _ H1 _ (fun i => (signs z).getD i .none) e1 w1 ⟨rfl, fun _ => rfl⟩ (fun i M' H2 hi hM ht hk => ⟨(show i < z.cps.size by rw [← hl]; exact hi), fun x H3 y => ?_⟩) fun H2 hk => ?_
  · obtain ⟨rfl, k, hk', rfl⟩ := y
    refine ⟨Ex.refl _ _, ?_⟩
    have e : (signs z)[i]? = some (.str ⟨#[k]⟩) := by
      unfold signs
      rw [List.getElem?_map, Array.getElem?_toList, hk'] <;> rfl
    show Rp M' _ _ ((signs z).getD i .none)
    rw [getD_of e]
    exact .str _
  · show z.cps.size ≤ (signs z).length
    rw [hl]
    exact Nat.le_refl _
/-- range(n), range(a, b) -/
theorem wk_rng1P {P : Int → Prop} (h : EvA c tl δ fun xs => ∃ n, xs = [.int n] ∧ 0 ≤ n ∧ n ≤ 100000 ∧ P n) : Wk c (iRng1 tl) δ fun m item => ∃ n : Int, P n ∧ m = n.toNat ∧ ∀ i, item i = .int i := fun M σ H w s R q => by
  refine h M σ H w s _ fun v dd H1 e1 w1 r1 ⟨n, ed, h0, h1, hp⟩ => ?_
  subst ed
  cases r1 with
  | cons r1 t1 =>
    cases t1
    cases r1
    refine ⟨n, rfl, by omega, by omega, ?_⟩
    refine q _ H1 n.toNat (fun i => .int i) e1 w1 ⟨n, hp, rfl, fun _ => rfl⟩ (fun i M' H2 hi hM ht hk => ⟨hi, fun x H3 y => ?_⟩) fun H2 hk => Nat.le_refl _
    obtain ⟨rfl, rfl⟩ := y
    refine ⟨Ex.refl _ _, ?_⟩
    have e0 : (0 : Int) + ((i : Nat) : Int) = (i : Int) := Int.zero_add _
    rw [e0]
    exact .int _
theorem wk_rng1 {n : Int} (h : EvL c tl δ [.int n]) (h0 : 0 ≤ n) (h1 : n ≤ 100000) : Wk c (iRng1 tl) δ fun m item => m = n.toNat ∧ ∀ i, item i = .int i :=
  (wk_rng1P (P := fun k => k = n) (h.imp fun xs e => ⟨n, e, h0, h1, rfl⟩)).imp fun m item ⟨k, e, r⟩ => e ▸ r
theorem wk_rng2 {lo n : Int} (h : EvL c tl δ [.int lo, .int n]) (h0 : -100000 ≤ lo ∧ lo ≤ 100000) (h1 : -100000 ≤ n ∧ n ≤ 100000) : Wk c (iRng2 tl) δ fun m item => m = (n - lo).toNat ∧ ∀ i, item i = .int (lo + (i : Nat)) := fun M σ H w s R q => by
  refine h M σ H w s _ fun v dd H1 e1 w1 r1 ed => ?_
  subst ed
  cases r1 with
  | cons r1 t1 =>
    cases t1 with
    | cons r2 t2 =>
      cases t2
      cases r1
      cases r2
      refine ⟨lo, n, rfl, ⟨by omega, by omega, by omega, by omega⟩, ?_⟩
      refine q _ H1 (n - lo).toNat (fun i => .int (lo + (i : Nat))) e1 w1 ⟨rfl, fun _ => rfl⟩ (fun i M' H2 hi hM ht hk => ⟨hi, fun x H3 y => ?_⟩) fun H2 hk => Nat.le_refl _
      obtain ⟨rfl, rfl⟩ := y
      exact ⟨Ex.refl _ _, .int _⟩

/-! ### comprehensions -/
theorem ex_mut {H H' : Hp} {p : Addr} {o : HO} (e : Ex c H H') (h : H p = none) : Ex c H (upd H' p o) := fun a u n ha => by
  rw [upd_ne (ne_of_none ha h)]
  exact e a u n ha
/-- what is to be shown of a comprehension over n items -/
structure Lc (c : Option Addr) (g : TG) (tt : TT) (te : TE) (vs : List Nat) (δ : List Ds) (n : Nat) (item : Nat → PyData) (P : PyData → Prop) where
  small : n ≤ 50000
  Inv : Nat → List PyData → Prop
  zero : Inv 0 []
  J : List Nat
  sub : ∀ j ∈ J, j ∈ vs
  δ' : Nat → List Ds
  tgt : ∀ i, i < n → Gb g J (item i) (wipeD δ vs) (δ' i)
  B : Nat → Bool → Prop
  tst : ∀ i, i < n → EvT c tt (δ' i) (B i)
  R : Nat → PyData → Prop
  elt : ∀ i, i < n → B i true → Ev c te (δ' i) (R i)
  yes : ∀ i acc d, i < n → Inv i acc → B i true → R i d → Inv (i + 1) (acc ++ [d])
  no : ∀ i acc, i < n → Inv i acc → B i false → Inv (i + 1) acc
  fin : ∀ acc, Inv n acc → acc.length ≤ n → P (.list acc)
def plusM (M : Addr → Prop) (D : Addr) : Addr → Prop := fun a => M a ∨ a = D
theorem ev_lcP {wi : TI} {g : TG} {vs : List Nat} {S : Nat → (Nat → PyData) → Prop} (W : Wk c wi δ S) (L : ∀ n item, S n item → Nonempty (Lc c g tt te vs δ n item P)) : Ev c (tLc wi g tt te vs) δ P := fun M σ H w s Q q => by
  refine W M σ H w s _ fun J H1 n item e1 w1 hS hgo hst D hD => ?_
  obtain ⟨L⟩ := L n item hS
  have wD : Wd c (plusM M D) (upd H1 D (.lst [])) := by
    refine ⟨fun a m => ?_, fun a e => ?_, fun a xs m => ?_⟩
    · rcases m with m | m
      · cases e : H1 a with
        | none => exact absurd e (w1.trk a m)
        | some o =>
          rw [upd_ne (ne_of_none e hD), e]
          exact fun z => nomatch z
      · rw [m, upd_same]
        exact fun z => nomatch z
    · obtain ⟨m, k⟩ := w1.cup a e
      obtain ⟨x, y, h, r⟩ := k
      refine ⟨.inl m, x, y, ?_, r⟩
      rw [upd_ne (ne_of_none h hD)]
      exact h
    · rcases m with m | m
      · cases e : H1 a with
        | none => exact absurd e (w1.trk a m)
        | some o =>
          rw [upd_ne (ne_of_none e hD), e]
          exact fun z => w1.mu a xs m (e.trans z)
      · rw [m, upd_same]
        exact fun z => nomatch z
  have s1 := s.ex w e1
  refine ⟨fun i m H' => m = n - i ∧ i ≤ n ∧ Ex c H1 H' ∧ Wd c (plusM M D) H' ∧ ∃ acc ds, H' D = some (.lst acc) ∧ Rps (plusM M D) H' acc ds ∧ L.Inv i ds ∧ ds.length ≤ i,
    ⟨n, by simp, Nat.zero_le _, Ex.new hD, wD, [], [], upd_same, .nil, L.zero, Nat.le_refl _⟩, ?_⟩
  rintro i m H2 ⟨rfl, hi, e2, w2, acc, ds, hacc, racc, hinv, hlen⟩
  have kp : ∀ a o, ¬ M a → H1 a = some o → H2 a = some o := fun a o nm e => e2 a o (fun z => nm (w1.cup a z).1) e
  have hM' : ∀ a o, plusM M D a → H1 a = some o → M a := fun a o m e => m.elim id fun z => by
    rw [z, hD] at e
    cases e
  by_cases hlt : i < n
  · obtain ⟨go, yl⟩ := hgo i (plusM M D) H2 hlt hM' w2.trk kp
    refine .inr ⟨go, fun H' => Ex c H1 H' ∧ Wd c (plusM M D) H' ∧ ∃ acc ds, H' D = some (.lst acc) ∧ Rps (plusM M D) H' acc ds ∧ L.Inv (i + 1) ds ∧ ds.length ≤ i + 1,
      fun H' ⟨a1, a2, a3⟩ => ⟨n - (i + 1), by omega, rfl, hlt, a1, a2, a3⟩, fun x H3 y => ?_⟩
    obtain ⟨e3, rx⟩ := yl x H3 y
    have w3 := w2.ex e3
    have sW : Sl (plusM M D) H3 (L2.wipe σ vs) (wipeD δ vs) := (((s1.mono hM' kp)).ex w2 e3.wide).wipe vs
    refine L.tgt i hlt (plusM M D) H3 _ x rx sW _ fun σ' s' hw => ?_
    refine ⟨by rw [hw vs L.sub, wipe_wipe], ?_⟩
    refine L.tst i hlt (plusM M D) σ' H3 w3 s' _ fun b H4 e4 w4 hb => ?_
    have nD : ∀ a, c = some a → a ≠ D := fun a ea z => by
      obtain ⟨_, x', y', h, _⟩ := w1.cup a ea
      rw [z, hD] at h
      cases h
    have cD : c ≠ some D := fun z => nD D z rfl
    have h3 : H3 D = some (.lst acc) := ex_none e3 hacc
    have h4 : H4 D = some (.lst acc) := e4 D _ cD h3
    have e14 : Ex c H1 H4 := (e2.trans e3.wide).trans e4
    have r4 : Rps (plusM M D) H4 acc ds := (racc.ex w2 (c := c) e3.wide).ex w3 e4
    cases b with
    | true =>
      show te σ' H4 _
      refine L.elt i hlt hb (plusM M D) σ' H4 w4 (s'.ex w3 e4) _ fun v d H5 e5 w5 r5 hd => ?_
      have h5 : H5 D = some (.lst acc) := e5 D _ cD h4
      have r5' := r4.ex w4 e5
      have keep5 : ∀ a o, ¬ plusM M D a → H5 a = some o → upd H5 D (.lst (acc ++ [v])) a = some o := fun a o nm e => by
        rw [upd_ne fun z => nm (.inr z)]
        exact e
      refine ⟨acc, h5, big_lt (by have h1 := r5'.length; have h2 := L.small; omega), ex_mut (e14.trans e5) hD, ⟨fun a m => ?_, fun a ea => ?_, fun a xs m => ?_⟩, _, _, upd_same, Rps.mono (fun _ _ m _ => m) keep5 _ (r5'.append (Rps.one r5)), L.yes i ds d hlt hinv hb hd, by rw [List.length_append, List.length_singleton]; omega⟩
      · by_cases z : a = D
        · rw [z, upd_same]
          exact fun z => nomatch z
        · rw [upd_ne z]
          exact w5.trk a m
      · obtain ⟨m, k⟩ := w5.cup a ea
        refine ⟨m, ?_⟩
        rw [upd_ne (nD a ea)]
        exact k
      · by_cases z : a = D
        · rw [z, upd_same]
          exact fun z => nomatch z
        · rw [upd_ne z]
          exact w5.mu a xs m
    | false =>
      show Ex c H1 H4 ∧ _
      exact ⟨e14, w4, acc, ds, h4, r4, L.no i ds hlt hinv hb, by omega⟩
  · have ei : i = n := by omega
    subst ei
    refine .inl ⟨hst H2 kp, ?_⟩
    have wM : Wd c M H2 := ⟨fun a m => w2.trk a (.inl m), fun a ea => ⟨(w1.cup a ea).1, (w2.cup a ea).2⟩, fun a xs m => w2.mu a xs (.inl m)⟩
    refine q _ (.list ds) H2 (e1.trans e2) wM (.lst (fun m => w1.trk D m hD) hacc (Rps.mono (fun _ _ m _ => .inl m) (fun a o _ e => e) _ racc)) (L.fin ds hinv hlen)
/-- the determined case: items ds, test b, element f -/
theorem ev_lc {wi : TI} {g : TG} {vs : List Nat} (W : Wk c wi δ (IsItems ds)) (b : PyData → Bool) (f : PyData → PyData) (δ' : PyData → List Ds) (J : List Nat) (hJ : ∀ j ∈ J, j ∈ vs) (hl : ds.length ≤ 50000)
    (ht : ∀ x ∈ ds, Gb g J x (wipeD δ vs) (δ' x)) (hb : ∀ x ∈ ds, EvB c tt (δ' x) (b x)) (hf : ∀ x ∈ ds, b x = true → EvD c te (δ' x) (f x)) : EvD c (tLc wi g tt te vs) δ (.list ((ds.filter b).map f)) :=
  ev_lcP W fun n item ⟨hn, hi⟩ => by
    have at_ : ∀ i (h : i < n), item i = ds[i]'(by omega) := fun i h => by
      rw [hi i, getD_of (List.getElem?_eq_getElem (by omega))]
    have mem : ∀ i, i < n → item i ∈ ds := fun i h => by
      rw [at_ i h]
      exact List.getElem_mem _
    have tk : ∀ i, i < n → ds.take (i + 1) = ds.take i ++ [item i] := fun i h => by
      rw [List.take_add_one, List.getElem?_eq_getElem (show i < ds.length by omega), at_ i h] <;> rfl
    refine ⟨Lc.mk (by omega) (fun i acc => acc = ((ds.take i).filter b).map f) rfl J hJ (fun i => δ' (item i)) (fun i h => ht _ (mem i h)) (fun i k => k = b (item i)) (fun i h => hb _ (mem i h))
      (fun i d => d = f (item i)) (fun i h hk => hf _ (mem i h) hk.symm) (fun i acc d h e1 e2 e3 => ?_) (fun i acc h e1 e2 => ?_) fun acc e _ => ?_⟩
    · show acc ++ [d] = _
      rw [tk i h, List.filter_append, List.map_append, ← e1, e3, List.filter_cons, if_pos e2.symm] <;> rfl
    · show acc = _
      rw [tk i h, List.filter_append, List.map_append, ← e1, List.filter_cons, if_neg (by rw [← e2]; decide)]
      simp
    · have e' : acc = ((ds.take n).filter b).map f := e
      rw [e', hn, List.take_length]
theorem et_yes : EvB c tYes δ true := fun M σ H w s Q q => q true H (Ex.refl c H) w rfl
/-- .. without a test -/
theorem ev_lcM {wi : TI} {g : TG} {vs : List Nat} (W : Wk c wi δ (IsItems ds)) (f : PyData → PyData) (δ' : PyData → List Ds) (J : List Nat) (hJ : ∀ j ∈ J, j ∈ vs) (hl : ds.length ≤ 50000)
    (ht : ∀ x ∈ ds, Gb g J x (wipeD δ vs) (δ' x)) (hf : ∀ x ∈ ds, EvD c te (δ' x) (f x)) : EvD c (tLc wi g tYes te vs) δ (.list (ds.map f)) := by
  have h := ev_lc (tt := tYes) (te := te) W (fun _ => true) f δ' J hJ hl ht (fun x _ => et_yes) fun x hx _ => hf x hx
  rw [List.filter_eq_self.mpr (fun _ _ => rfl)] at h
  exact h
end
end Sh

set_option maxHeartbeats 4000000
/-! Layer D: comprehensions of two clauses, statements, calls and defs. -/
namespace Sh
open PySem PySem.Spec PyProof.Rows L2

section
variable {c : Option Addr} {te ta tb tx : TE} {tt tu : TT} {tl tr : TA} {δ : List Ds} {P A B R : PyData → Prop} {i : Nat} {d x y z : PyData} {ds xs : List PyData} {K : PySem.W.Frag}

/-- [elt for x in .. for y in ..], no tests -/
theorem ev_lc2 {wi wi1 : TI} {g g1 : TG} {vs vs1 : List Nat} (W : Wk c wi δ (IsItems ds)) (inn : PyData → List PyData) (f : PyData → PyData → PyData) (δ1 : PyData → List Ds) (δ2 : PyData → PyData → List Ds) (J J1 : List Nat) (hJ : ∀ j ∈ J, j ∈ vs) (hJ1 : ∀ j ∈ J1, j ∈ vs1)
    (hl : ds.length ≤ 500) (hl1 : ∀ x ∈ ds, (inn x).length ≤ 100) (hg : ∀ x ∈ ds, Gb g J x (wipeD δ vs) (δ1 x)) (W1 : ∀ x ∈ ds, Wk c wi1 (δ1 x) (IsItems (inn x))) (hg1 : ∀ x ∈ ds, ∀ y ∈ inn x, Gb g1 J1 y (wipeD (δ1 x) vs1) (δ2 x y))
    (hf : ∀ x ∈ ds, ∀ y ∈ inn x, EvD c te (δ2 x y) (f x y)) : EvD c (tLc2 wi g tYes wi1 g1 tYes te vs vs1) δ (.list (ds.flatMap fun x => (inn x).map (f x))) := fun M σ H w s Q q => by
  refine W M σ H w s _ fun J' H1 n item e1 w1 ⟨hn, hit⟩ hgo hst D hD => ?_
  have at_ : ∀ i (h : i < n), item i = ds[i]'(by omega) := fun i h => by
    rw [hit i, getD_of (List.getElem?_eq_getElem (by omega))]
  have mem : ∀ i, i < n → item i ∈ ds := fun i h => by
    rw [at_ i h]
    exact List.getElem_mem _
  have tk : ∀ i, i < n → ds.take (i + 1) = ds.take i ++ [item i] := fun i h => by
    rw [List.take_add_one, List.getElem?_eq_getElem (show i < ds.length by omega), at_ i h] <;> rfl
  have wD : Wd c (plusM M D) (upd H1 D (.lst [])) := by
    refine ⟨fun a m => ?_, fun a e => ?_, fun a xs m => ?_⟩
    · rcases m with m | m
      · cases e : H1 a with
        | none => exact absurd e (w1.trk a m)
        | some o =>
          rw [upd_ne (ne_of_none e hD), e]
          exact fun z => nomatch z
      · rw [m, upd_same]
        exact fun z => nomatch z
    · obtain ⟨m, x, y, h, r⟩ := w1.cup a e
      refine ⟨.inl m, x, y, ?_, r⟩
      rw [upd_ne (ne_of_none h hD)]
      exact h
    · rcases m with m | m
      · cases e : H1 a with
        | none => exact absurd e (w1.trk a m)
        | some o =>
          rw [upd_ne (ne_of_none e hD), e]
          exact fun z => w1.mu a xs m (e.trans z)
      · rw [m, upd_same]
        exact fun z => nomatch z
  have s1 := s.ex w e1
  have nD : ∀ a, c = some a → a ≠ D := fun a ea z => by
    obtain ⟨_, x', y', h, _⟩ := w1.cup a ea
    rw [z, hD] at h
    cases h
  have cD : c ≠ some D := fun z => nD D z rfl
  have lens : ∀ l : List PyData, (∀ x ∈ l, x ∈ ds) → (l.flatMap fun x => (inn x).map (f x)).length ≤ l.length * 100 := by
    intro l
    induction l with
    | nil => intro _; simp
    | cons a l ih =>
      intro h
      have h1 := ih fun x hx => h x (List.mem_cons_of_mem _ hx)
      have h2 := hl1 a (h a List.mem_cons_self)
      rw [List.flatMap_cons, List.length_append, List.length_map, List.length_cons]
      omega
  -- the state of the new list: the items xs
  let St : List PyData → Hp → Prop := fun xs H' => Ex c H1 H' ∧ Wd c (plusM M D) H' ∧ ∃ acc, H' D = some (.lst acc) ∧ Rps (plusM M D) H' acc xs
  refine ⟨fun i m H' => m = n - i ∧ i ≤ n ∧ St ((ds.take i).flatMap fun x => (inn x).map (f x)) H', ⟨n, by simp, Nat.zero_le _, Ex.new hD, wD, [], upd_same, by simpa using Rps.nil⟩, ?_⟩
  rintro i m H2 ⟨rfl, hi, e2, w2, acc, hacc, racc⟩
  have kp : ∀ a o, ¬ M a → H1 a = some o → H2 a = some o := fun a o nm e => e2 a o (fun z => nm (w1.cup a z).1) e
  have hM' : ∀ a o, plusM M D a → H1 a = some o → M a := fun a o m e => m.elim id fun z => by
    rw [z, hD] at e
    cases e
  by_cases hlt : i < n
  · obtain ⟨go, yl⟩ := hgo i (plusM M D) H2 hlt hM' w2.trk kp
    refine .inr ⟨go, St ((ds.take (i + 1)).flatMap fun x => (inn x).map (f x)), fun H' a1 => ⟨n - (i + 1), by omega, rfl, hlt, a1⟩, fun x H3 y => ?_⟩
    obtain ⟨e3, rx⟩ := yl x H3 y
    have w3 := w2.ex e3
    have sW : Sl (plusM M D) H3 (L2.wipe σ vs) (wipeD δ vs) := (((s1.mono hM' kp)).ex w2 e3.wide).wipe vs
    have hx := mem i hlt
    refine hg _ hx (plusM M D) H3 _ x rx sW _ fun σ' s' hw => ?_
    refine ⟨by rw [hw vs hJ, wipe_wipe], ?_⟩
    show wi1 σ' H3 _
    refine W1 _ hx (plusM M D) σ' H3 w3 s' _ fun J2 H4 n2 item2 e4 w4 ⟨hn2, hit2⟩ hgo2 hst2 => ?_
    have at2 : ∀ j (h : j < n2), item2 j = (inn (item i))[j]'(by omega) := fun j h => by
      rw [hit2 j, getD_of (List.getElem?_eq_getElem (by omega))]
    have mem2 : ∀ j, j < n2 → item2 j ∈ inn (item i) := fun j h => by
      rw [at2 j h]
      exact List.getElem_mem _
    have tk2 : ∀ j, j < n2 → (inn (item i)).take (j + 1) = (inn (item i)).take j ++ [item2 j] := fun j h => by
      rw [List.take_add_one, List.getElem?_eq_getElem (show j < (inn (item i)).length by omega), at2 j h] <;> rfl
    let X0 := (ds.take i).flatMap fun x => (inn x).map (f x)
    have hX0 : X0.length ≤ i * 100 := by
      have h := lens (ds.take i) fun x hx => List.mem_of_mem_take hx
      rw [List.length_take] at h
      have h2 : min i ds.length ≤ i := Nat.min_le_left _ _
      exact Nat.le_trans h (Nat.mul_le_mul_right _ h2)
    have e14 : Ex c H1 H4 := (e2.trans e3.wide).trans e4
    have h4 : H4 D = some (.lst acc) := e4 D _ cD (ex_none e3 hacc)
    have r4 : Rps (plusM M D) H4 acc X0 := (racc.ex w2 (c := c) e3.wide).ex w3 e4
    refine ⟨fun j k H' => k = n2 - j ∧ j ≤ n2 ∧ Ex c H4 (upd H' D (.lst acc)) ∧ St (X0 ++ ((inn (item i)).take j).map (f (item i))) H', ⟨n2, by simp, Nat.zero_le _, ?_, e14, w4, acc, h4, by simpa using r4⟩, ?_⟩
    · intro a o na e
      by_cases z : a = D
      · rw [z, upd_same, ← h4, ← z]
        exact e
      · rw [upd_ne z]
        exact e
    rintro j k H5 ⟨rfl, hj, e45, e5, w5, acc5, hacc5, racc5⟩
    have kp2 : ∀ a o, ¬ plusM M D a → H4 a = some o → H5 a = some o := fun a o nm e => by
      have h := e45 a o (fun z => nm (w4.cup a z).1) e
      rw [upd_ne fun z => nm (.inr z)] at h
      exact h
    by_cases hjl : j < n2
    · obtain ⟨go2, yl2⟩ := hgo2 j (plusM M D) H5 hjl (fun _ _ m _ => m) w5.trk kp2
      refine .inr ⟨go2, fun H' => Ex c H4 (upd H' D (.lst acc)) ∧ St (X0 ++ ((inn (item i)).take (j + 1)).map (f (item i))) H', fun H' ⟨a1, a2⟩ => ⟨n2 - (j + 1), by omega, rfl, hjl, a1, a2⟩, fun x2 H6 y2 => ?_⟩
      obtain ⟨e6, rx2⟩ := yl2 x2 H6 y2
      have w6 := w5.ex e6
      have s5 : Sl (plusM M D) H5 σ' (δ1 (item i)) := (s'.ex w3 e4).mono (fun _ _ m _ => m) kp2
      refine hg1 _ hx _ (mem2 j hjl) (plusM M D) H6 _ x2 rx2 ((s5.ex w5 e6.wide).wipe vs1) _ fun σ2 s2 hw2 => ?_
      refine ⟨by rw [hw2 vs1 hJ1, wipe_wipe], ?_⟩
      show te σ2 H6 _
      refine hf _ hx _ (mem2 j hjl) (plusM M D) σ2 H6 w6 s2 _ fun v d H7 e7 w7 r7 hd => ?_
      subst hd
      have h7 : H7 D = some (.lst acc5) := e7 D _ cD (ex_none e6 hacc5)
      have r5' := (racc5.ex w5 (c := c) e6.wide).ex w6 e7
      have keep7 : ∀ a o, ¬ plusM M D a → H7 a = some o → upd H7 D (.lst (acc5 ++ [v])) a = some o := fun a o nm e => by
        rw [upd_ne fun z => nm (.inr z)]
        exact e
      refine ⟨acc5, h7, big_lt ?_, ?_, ex_mut ((e5.trans e6.wide).trans e7) hD, ⟨fun a m => ?_, fun a ea => ?_, fun a xs m => ?_⟩, _, upd_same, ?_⟩
      · have q1 := r5'.length
        rw [List.length_append, List.length_map, List.length_take] at q1
        have q2 := hl1 _ hx
        omega
      · intro a o na e
        rw [upd_upd]
        by_cases z : a = D
        · rw [z, upd_same, ← h4, ← z]
          exact e
        · rw [upd_ne z]
          have q1 := e45 a o na e
          rw [upd_ne z] at q1
          exact e7 a o na (ex_none e6 q1)
      · by_cases z : a = D
        · rw [z, upd_same]
          exact fun z => nomatch z
        · rw [upd_ne z]
          exact w7.trk a m
      · obtain ⟨m, k⟩ := w7.cup a ea
        refine ⟨m, ?_⟩
        rw [upd_ne (nD a ea)]
        exact k
      · by_cases z : a = D
        · rw [z, upd_same]
          exact fun z => nomatch z
        · rw [upd_ne z]
          exact w7.mu a xs m
      · rw [tk2 j hjl, List.map_append, ← List.append_assoc]
        exact Rps.mono (fun _ _ m _ => m) keep7 _ (r5'.append (Rps.one r7))
    · have ej : j = n2 := by omega
      subst ej
      refine .inl ⟨hst2 H5 kp2, e5, w5, acc5, hacc5, ?_⟩
      rw [tk i hlt, List.flatMap_append, List.flatMap_singleton]
      rw [hn2, List.take_length] at racc5
      exact racc5
  · have ei : i = n := by omega
    subst ei
    refine .inl ⟨hst H2 kp, ?_⟩
    have wM : Wd c M H2 := ⟨fun a m => w2.trk a (.inl m), fun a ea => ⟨(w1.cup a ea).1, (w2.cup a ea).2⟩, fun a xs m => w2.mu a xs (.inl m)⟩
    rw [hn, List.take_length] at racc
    exact q _ _ H2 (e1.trans e2) wM (.lst (fun m => w1.trk D m hD) hacc (Rps.mono (fun _ _ m _ => .inl m) (fun a o _ e => e) _ racc)) rfl

/-! ### range objects -/
def iRngV (te : TE) : TI := fun σ H R => te σ H fun x H1 => ∃ a lo hi, x = .ref a ∧ H1 a = some (.rng lo hi) ∧ (-(2 ^ 62) ≤ lo ∧ lo < 2 ^ 62 ∧ -(2 ^ 62) ≤ hi ∧ hi < 2 ^ 62) ∧ R (Itr lo (hi - lo).toNat) H1
theorem pi_rngV {X : Cx} {tg e : Expr} {te : TE} (he : PE X e te) : PI X tg e (iRngV te) := by
  refine ⟨fun pins s σ H R I h => ?_⟩
  refine thn (he.run pins s σ H _ I h) fun v s1 ⟨x, H1, I1, r1, q1⟩ => ?_
  obtain ⟨a, lo, hi, ex, ha, ⟨b1, b2, b3, b4⟩, q⟩ := q1
  subst ex
  cases r1
  obtain ⟨t, u, v, ho⟩ := I1.hok a _ ha
  refine wpAny_pyIter_range (show IsRange s1.heap a lo hi 1 t u v from ho) (small_one b1 b2 b3 b4) ?_
  refine pi_one (tk := s1.toks) I1 _ (turn_range _ lo (hi - lo).toNat) ?_ q
  have e1 : lo + ((0 : Nat) : Int) * 1 = lo := by simp
  have e2 : (((hi - lo).toNat : Nat) : Int) - ((0 : Nat) : Int) = Builtin.Range.rangeSize lo hi 1 := by rw [rangeSize_one]; split <;> omega
  show IsRangeIter _ _ (lo + ((0 : Nat) : Int) * 1) ((((hi - lo).toNat : Nat) : Int) - ((0 : Nat) : Int)) 1
  rw [e1, e2]
  exact Heap.get?_push_size _ rfl
theorem wk_rngV {lo hi : Int} (e : δ[i]? = some (.rg lo hi)) (h0 : -100000 ≤ lo ∧ lo ≤ 100000) (h1 : -100000 ≤ hi ∧ hi ≤ 100000) : Wk c (iRngV (tVar i)) δ fun m item => m = (hi - lo).toNat ∧ ∀ i, item i = .int (lo + (i : Nat)) := fun M σ H w s R q => by
  obtain ⟨a, e1, nM, ha⟩ := s.2 i _ e
  refine ⟨.ref a, e1, a, lo, hi, rfl, ha, ⟨by omega, by omega, by omega, by omega⟩, ?_⟩
  refine q _ H (hi - lo).toNat (fun i => .int (lo + (i : Nat))) (Ex.refl _ _) w ⟨rfl, fun _ => rfl⟩ (fun i M' H2 hi hM ht hk => ⟨hi, fun x H3 y => ?_⟩) fun H2 hk => Nat.le_refl _
  obtain ⟨rfl, rfl⟩ := y
  exact ⟨Ex.refl _ _, .int _⟩
/-- a range's numbers as items -/
def rgD (lo hi : Int) : List PyData := (List.range (hi - lo).toNat).map fun i => .int (lo + (i : Nat))
theorem rgD_items {lo hi : Int} {m : Nat} {item : Nat → PyData} (h : m = (hi - lo).toNat ∧ ∀ i, item i = .int (lo + (i : Nat))) : m = (rgD lo hi).length ∧ ∀ i, i < m → item i = (rgD lo hi).getD i .none := by
  refine ⟨by rw [h.1]; simp [rgD], fun i hi' => ?_⟩
  have e : (rgD lo hi)[i]? = some (.int (lo + (i : Nat))) := by
    unfold rgD
    rw [List.getElem?_map, List.getElem?_range (by omega)] <;> rfl
  rw [getD_of e, h.2 i]

/-! ### statements -/
def Run (c : Option Addr) (ts : TS) (δ : List Ds) (N : List Ds → Prop) (R : PyData → Prop) : Prop :=
  ∀ (M : Addr → Prop) (σ : L2.St) (H : Hp), Wd c M H → Sl M H σ δ → ∀ D : Ends, (∀ σ' δ' H', Ex c H H' → Wd c M H' → Sl M H' σ' δ' → N δ' → D.nx σ' H') →
    (∀ v d H', Ex c H H' → Wd c M H' → Rp M H' v d → R d → D.rt v H') → ts D σ H
variable {t u : TS} {N N1 : List Ds → Prop} {g : TG}
theorem Run.imp {N' : List Ds → Prop} {R' : PyData → Prop} (h : Run c t δ N R) (hn : ∀ δ, N δ → N' δ) (hr : ∀ d, R d → R' d) : Run c t δ N' R' := fun M σ H w s D q1 q2 =>
  h M σ H w s D (fun σ' δ' H' a b c d => q1 σ' δ' H' a b c (hn _ d)) fun v d H' a b c e => q2 v d H' a b c (hr _ e)
theorem run_seq (h : Run c t δ N1 R) (k : ∀ δ1, N1 δ1 → Run c u δ1 N R) : Run c (tSeq t u) δ N R := fun M σ H w s D q1 q2 => by
  refine h M σ H w s { D with nx := u D } (fun σ1 δ1 H1 e1 w1 s1 n1 => ?_) q2
  exact k δ1 n1 M σ1 H1 w1 s1 D (fun σ2 δ2 H2 e2 w2 s2 n2 => q1 σ2 δ2 H2 (e1.trans e2) w2 s2 n2) fun v d H2 e2 w2 r2 hd => q2 v d H2 (e1.trans e2) w2 r2 hd
theorem run_next (h : N δ) : Run c tNext δ N R := fun M σ H w s D q1 q2 => q1 σ δ H (Ex.refl _ _) w s h
theorem run_asg (h : Ev c te δ A) (k : ∀ d, A d → ∃ J δ', Gb g J d δ δ' ∧ N δ') : Run c (tAsg te g) δ N R := fun M σ H w s D q1 q2 => by
  refine h M σ H w s _ fun v d H1 e1 w1 r1 hd => ?_
  obtain ⟨J, δ', hg, hN⟩ := k d hd
  exact hg M H1 σ v r1 (s.ex w e1) _ fun σ' s' _ => q1 σ' δ' H1 e1 w1 s' hN
theorem run_set {j : Nat} (h : Ev c te δ A) (k : ∀ d, A d → N (δ.set j (.dat d))) : Run c (tAsg te (gName j)) δ N R := run_asg h fun d hd => ⟨_, _, gb_name, k d hd⟩
theorem q_set {j : Nat} (h : Ev c te δ A) (k : ∀ d, A d → Run c u (δ.set j (.dat d)) N R) : Run c (tSeq (tAsg te (gName j)) u) δ N R :=
  run_seq (N1 := fun δ1 => ∃ d, A d ∧ δ1 = δ.set j (.dat d)) (run_set h fun d hd => ⟨d, hd, rfl⟩) fun _ ⟨d, hd, e⟩ => e ▸ k d hd
theorem q_setD {j : Nat} (h : EvD c te δ d) (k : Run c u (δ.set j (.dat d)) N R) : Run c (tSeq (tAsg te (gName j)) u) δ N R := q_set h fun _ e => e ▸ k
theorem q_asg (h : Ev c te δ A) (k : ∀ d, A d → ∃ J δ', Gb g J d δ δ' ∧ Run c u δ' N R) : Run c (tSeq (tAsg te g) u) δ N R :=
  run_seq (N1 := fun δ1 => Run c u δ1 N R) (run_asg h k) fun _ h => h
theorem run_ret (h : Ev c te δ R) : Run c (tRet te) δ N R := fun M σ H w s D q1 q2 => h M σ H w s _ fun v d H1 e1 w1 r1 hd => q2 v d H1 e1 w1 r1 hd
theorem run_retD (h : EvD c te δ d) (k : R d) : Run c (tRet te) δ N R := run_ret (h.imp fun _ e => e ▸ k)
theorem run_if {B : Bool → Prop} (h : EvT c tt δ B) (h1 : B true → Run c t δ N R) (h2 : B false → Run c u δ N R) : Run c (tIfS tt t u) δ N R := fun M σ H w s D q1 q2 => by
  refine h M σ H w s _ fun b H1 e1 w1 hb => ?_
  cases b with
  | true =>
    show t D σ H1
    exact h1 hb M σ H1 w1 (s.ex w e1) D (fun σ2 δ2 H2 e2 w2 s2 n2 => q1 σ2 δ2 H2 (e1.trans e2) w2 s2 n2) fun v d H2 e2 w2 r2 hd => q2 v d H2 (e1.trans e2) w2 r2 hd
  | false =>
    show u D σ H1
    exact h2 hb M σ H1 w1 (s.ex w e1) D (fun σ2 δ2 H2 e2 w2 s2 n2 => q1 σ2 δ2 H2 (e1.trans e2) w2 s2 n2) fun v d H2 e2 w2 r2 hd => q2 v d H2 (e1.trans e2) w2 r2 hd
/-- an if that is not taken, its way leaves the def -/
theorem q_ifNo {b : Bool} {t' : TS} (h : EvB c tt δ b) (hb : b = false) (k : Run c u δ N R) : Run c (tSeq (tIfS tt t' tNext) u) δ N R :=
  run_seq (N1 := fun δ1 => δ1 = δ) (run_if h (fun e => by rw [hb] at e; cases e) fun _ => run_next rfl) fun _ e => e ▸ k
theorem q_if {B : Bool → Prop} {t' : TS} (h : EvT c tt δ B) (h1 : B true → Run c t' δ (fun _ => False) R) (k : B false → Run c u δ N R) : Run c (tSeq (tIfS tt t' tNext) u) δ N R :=
  run_seq (N1 := fun δ1 => B false ∧ δ1 = δ) (run_if h (fun e => (h1 e).imp (fun _ z => z.elim) fun _ r => r) fun e => run_next ⟨e, rfl⟩) fun _ ⟨hb, e⟩ => e ▸ k hb
theorem run_par {i j : Nat} {x y : PyData} (h : EvL c tl δ [x, y]) (k : N ((δ.set i (.dat x)).set j (.dat y))) : Run c (tPar i j tl) δ N R := fun M σ H w s D q1 q2 => by
  refine h M σ H w s _ fun vs ds H1 e1 w1 r1 hd => ?_
  subst hd
  cases r1 with
  | cons r1 t1 =>
    cases t1 with
    | cons r2 t2 =>
      cases t2
      exact ⟨_, _, rfl, q1 _ _ H1 e1 w1 (((s.ex w e1).dat r1).dat r2) k⟩
theorem run_parP {i j : Nat} {A : List PyData → Prop} (h : EvA c tl δ A) (k : ∀ ds, A ds → ∃ x y, ds = [x, y] ∧ N ((δ.set i (.dat x)).set j (.dat y))) : Run c (tPar i j tl) δ N R := fun M σ H w s D q1 q2 => by
  refine h M σ H w s _ fun vs ds H1 e1 w1 r1 hd => ?_
  obtain ⟨x, y, e, k⟩ := k ds hd
  subst e
  cases r1 with
  | cons r1 t1 =>
    cases t1 with
    | cons r2 t2 =>
      cases t2
      exact ⟨_, _, rfl, q1 _ _ H1 e1 w1 (((s.ex w e1).dat r1).dat r2) k⟩
theorem run_par3 {i j l : Nat} {x y z : PyData} (h : EvL c tl δ [x, y, z]) (k : N (((δ.set i (.dat x)).set j (.dat y)).set l (.dat z))) : Run c (tPar3 i j l tl) δ N R := fun M σ H w s D q1 q2 => by
  refine h M σ H w s _ fun vs ds H1 e1 w1 r1 hd => ?_
  subst hd
  cases r1 with
  | cons r1 t1 =>
    cases t1 with
    | cons r2 t2 =>
      cases t2 with
      | cons r3 t3 =>
        cases t3
        exact ⟨_, _, _, rfl, q1 _ _ H1 e1 w1 ((((s.ex w e1).dat r1).dat r2).dat r3) k⟩
/-- a loop over n items, its word by the turn and the slots -/
theorem run_for {wi : TI} {S : Nat → (Nat → PyData) → Prop} (W : Wk c wi δ S) (k : ∀ n item, S n item → ∃ Inv : Nat → List Ds → Prop, Inv 0 δ ∧ (∀ i δi, i < n → Inv i δi → ∃ J δ', Gb g J (item i) δi δ' ∧ Run c t δ' (Inv (i + 1)) R) ∧ ∀ δ', Inv n δ' → N δ') :
    Run c (tFor wi g t) δ N R := fun M σ H w s D q1 q2 => by
  refine W M σ H w s _ fun J' H1 n item e1 w1 hS hgo hst => ?_
  obtain ⟨Inv, h0, hb, hd⟩ := k n item hS
  refine ⟨fun i m σ' H' => m = n - i ∧ i ≤ n ∧ Ex c H1 H' ∧ Wd c M H' ∧ ∃ δ', Sl M H' σ' δ' ∧ Inv i δ', ⟨n, by simp, Nat.zero_le _, Ex.refl _ _, w1, δ, s.ex w e1, h0⟩, ?_⟩
  rintro i m σ2 H2 ⟨rfl, hi, e2, w2, δ2, s2, i2⟩
  have kp : ∀ a o, ¬ M a → H1 a = some o → H2 a = some o := w1.keep e2
  by_cases hlt : i < n
  · obtain ⟨go, yl⟩ := hgo i M H2 hlt (fun _ _ m _ => m) w2.trk kp
    refine .inr ⟨go, fun σ' H' => Ex c H1 H' ∧ Wd c M H' ∧ ∃ δ', Sl M H' σ' δ' ∧ Inv (i + 1) δ', fun σ' H' ⟨a1, a2, a3⟩ => ⟨n - (i + 1), by omega, rfl, hlt, a1, a2, a3⟩, fun x H3 y => ?_⟩
    obtain ⟨e3, rx⟩ := yl x H3 y
    have w3 := w2.ex e3
    obtain ⟨J, δ', hg, hr⟩ := hb i δ2 hlt i2
    refine hg M H3 σ2 x rx (s2.ex w2 e3.wide) _ fun σ' s' _ => ?_
    refine hr M σ' H3 w3 s' _ (fun σ4 δ4 H4 e4 w4 s4 n4 => ⟨(e2.trans e3.wide).trans e4, w4, δ4, s4, n4⟩) fun v d H4 e4 w4 r4 hd => ?_
    exact q2 v d H4 (((e1.trans e2).trans e3.wide).trans e4) w4 r4 hd
  · have ei : i = n := by omega
    subst ei
    exact .inl ⟨hst H2 kp, q1 σ2 δ2 H2 (e1.trans e2) w2 s2 (hd δ2 i2)⟩

/-! ### promises -/
def spD (n : Nat) (Pre : List PyData → Prop) (Post : List PyData → PyData → Prop) : Sp := fun vs H Q _ =>
  ∃ (M : Addr → Prop) (ds : List PyData), Wd none M H ∧ Rps M H vs ds ∧ ds.length = n ∧ Pre ds ∧ ∀ v d H', Ex none H H' → Rp M H' v d → Post ds d → Q v H'
/-- with the cup ahead -/
def spG (n : Nat) (Pre : List PyData → Prop) (Post : List PyData → PyData → Prop) : Sp := fun vs H Q _ =>
  ∃ (a : Addr) (us : List V) (M : Addr → Prop) (ds : List PyData), vs = .ref a :: us ∧ Wd (some a) M H ∧ Rps M H us ds ∧ ds.length = n ∧ Pre ds ∧ ∀ v d H', Ex (some a) H H' → Wd (some a) M H' → Rp M H' v d → Post ds d → Q v H'
theorem ev_callP {n : Nat} {Pre A : List PyData → Prop} {Post : List PyData → PyData → Prop} {E : XK} (h : EvA c tl δ A) (hp : ∀ ds, A ds → ds.length = n ∧ Pre ds) (k : ∀ ds d, A ds → Post ds d → R d) : Ev c (tCall (spD n Pre Post) [] E tl) δ R := fun M σ H w s Q q => by
  refine h M σ H w s _ fun vs ds H1 e1 w1 r1 hA => ?_
  obtain ⟨hn, hpre⟩ := hp ds hA
  rw [List.append_nil]
  exact ⟨M, ds, w1.bare, r1, hn, hpre, fun v d H2 e2 r2 hd => q v d H2 (e1.trans e2.wide) (w1.ex e2) r2 (k ds d hA hd)⟩
theorem ev_call {n : Nat} {Pre : List PyData → Prop} {Post : List PyData → PyData → Prop} {E : XK} (h : EvL c tl δ ds) (hn : ds.length = n) (hp : Pre ds) (k : ∀ d, Post ds d → R d) : Ev c (tCall (spD n Pre Post) [] E tl) δ R :=
  ev_callP h (fun _ e => e ▸ ⟨hn, hp⟩) fun _ d e hd => k d (e ▸ hd)
theorem ev_callG {a : Addr} {n : Nat} {Pre A : List PyData → Prop} {Post : List PyData → PyData → Prop} {E : XK} (e : δ[i]? = some (.adr a)) (h : EvA (some a) tl δ A) (hp : ∀ ds, A ds → ds.length = n ∧ Pre ds) (k : ∀ ds d, A ds → Post ds d → R d) :
    Ev (some a) (tCall (spG n Pre Post) [] E (tCons (tVar i) tl)) δ R := fun M σ H w s Q q => by
  refine ⟨.ref a, s.adr e, ?_⟩
  refine h M σ H w s _ fun vs ds H1 e1 w1 r1 hA => ?_
  obtain ⟨hn, hpre⟩ := hp ds hA
  rw [List.append_nil]
  exact ⟨a, vs, M, ds, rfl, w1, r1, hn, hpre, fun v d H2 e2 w2 r2 hd => q v d H2 (e1.trans e2) w2 r2 (k ds d hA hd)⟩
end

/-! ### defs -/
section
variable {Pg : Program} {w : World} {K : PySem.W.Frag} {mg : Str → Option Value} {base : Heap}
/-- the def as it stands behind the top -/
structure Dn (K : PySem.W.Frag) (mg : Str → Option Value) (name : Str) (st : Stmt) (ps : List Str) : Prop where
  ex : ∃ (f : Addr) (fd : FuncData), FunD K name name (defArgs st) (defBody st) (defScope st) [] [] f fd ∧ Binds K fd ps [] ∧ mg name = some (.ref f)
/-- it keeps a promise -/
structure Ok (Pg : Program) (w : World) (K : PySem.W.Frag) (mg : Str → Option Value) (base : Heap) (name : Str) (ps : List Str) (k : Nat) (sp : Sp) : Prop where
  ex : ∃ (f : Addr) (fd : FuncData), PySem.W.keepIn K (.ref f) = true ∧ Binds K fd ps [] ∧ mg name = some (.ref f) ∧ FnOk Pg w K mg base CX0 k f fd ps sp
theorem Ok.mono {name : Str} {ps : List Str} {j k : Nat} {sp : Sp} (h : Ok Pg w K mg base name ps j sp) (hk : j ≤ k) : Ok Pg w K mg base name ps k sp := by
  obtain ⟨f, fd, a, b, c, d⟩ := h.ex
  exact ⟨f, fd, a, b, c, d.mono hk⟩
theorem pe_callD {X : Cx} {name : Str} {ps : List Str} {k : Nat} {sp : Sp} {e : Expr} {es : List Expr} {t : TA} {p pos : Pos} (O : Ok X.prog X.w X.K X.mg X.base name ps k sp) (hr : Room k X.A) (hg : Gl X name) (ha : PA X (e :: es) t)
    (hdb : (name == ("__debug__" : Str)) = false := by decide) (he : starEach (e :: es) X.env = (false, eval e X.env) :: starEach es X.env := by rfl) (hpl : (backTo pos (starEach es X.env)).any (·.1) = false := by rfl) :
    PE X (.Call (.Name name p) (e :: es) [] pos) (tCall sp [] E0 t) := by
  obtain ⟨f, fd, kp, b, m, F⟩ := O.ex
  exact pe_call F hr hg m kp b .nil pass0 ha hdb he hpl
theorem pe_callD0 {X : Cx} {name : Str} {ps : List Str} {k : Nat} {sp : Sp} {p pos : Pos} (O : Ok X.prog X.w X.K X.mg X.base name ps k sp) (hr : Room k X.A) (hg : Gl X name) (hdb : (name == ("__debug__" : Str)) = false := by decide) :
    PE X (.Call (.Name name p) [] [] pos) (tCall sp [] E0 tNil) := by
  obtain ⟨f, fd, kp, b, m, F⟩ := O.ex
  exact pe_call0 F hr hg m kp b .nil pass0 hdb
/-- the slots at the entry -/
def ent (N : List Str) (ds : List Ds) : List Ds := ds ++ List.replicate (N.length - ds.length) .any
theorem start_get {N : List Str} {vs : List V} {i : Nat} {v : V} (h : vs[i]? = some v) : (L2.start N vs)[i]? = some (some v) := by
  have hl : i < vs.length := (List.getElem?_eq_some_iff.mp h).1
  unfold L2.start
  rw [List.getElem?_append_left (by rw [List.length_map]; exact hl), List.getElem?_map, h] <;> rfl
theorem sl_start {M : Addr → Prop} {H : Hp} {N : List Str} {vs : List V} {ss : List Ds} (hl : vs.length = ss.length) (hN : vs.length ≤ N.length) (h : ∀ (i : Nat) v s, vs[i]? = some v → ss[i]? = some s → SdR M H (some (some v)) s) : Sl M H (L2.start N vs) (ent N ss) := by
  refine ⟨by simp [L2.start, ent, hl], fun i s e => ?_⟩
  unfold ent at e
  by_cases hi : i < ss.length
  · rw [List.getElem?_append_left hi] at e
    have hv : vs[i]? = some (vs[i]'(by omega)) := List.getElem?_eq_getElem (by omega)
    rw [start_get hv]
    exact h i _ s hv e
  · rw [List.getElem?_append_right (by omega), List.getElem?_replicate] at e
    split at e
    · rw [← Option.some.inj e]
      trivial
    · cases e
theorem ok_def {name : Str} {st : Stmt} {N ps : List Str} {k : Nat} {Pre : List PyData → Prop} {Post : List PyData → PyData → Prop} (D : Dn K mg name st ps) (S : FnScope N ps (defScope st)) (hps : ps.length ≤ N.length)
    (hb : ∀ (f : Addr) (cdv : Value) (A : Around) (outer : List Env) (s : Shared) (H : Hp) (E : XK), Room k (A.deeper (envOfC name (defScope st) s.heap.objs.size f cdv)) → ∃ t, PSs (cxOf CX0 Pg w K mg base N name (defScope st) f cdv A outer s H E).nox (defBody st) t ∧
      ∀ ds : List PyData, ds.length = ps.length → Pre ds → Run none t (ent N (ds.map .dat)) (fun _ => Post ds .none) (Post ds)) : Ok Pg w K mg base name ps (k + 1) (spD ps.length Pre Post) := by
  obtain ⟨f, fd, F, b, m⟩ := D.ex
  refine ⟨f, fd, F.kp, b, m, F.ok S (fun vs H Q E h => ?_) fun cdv A outer s H vs Q E hr h => ?_⟩
  · obtain ⟨M, ds, _, r, hn, _⟩ := h
    rw [r.length, hn]
  · obtain ⟨t, ht, hrun⟩ := hb f cdv A outer s H E hr
    refine ⟨t, PSs.nox ht, ?_⟩
    obtain ⟨M, ds, wd, r, hn, hp, q⟩ := h
    refine hrun ds hn hp M (L2.start N vs) H wd (sl_start (by rw [List.length_map, r.length]) (by rw [r.length, hn]; exact hps) fun i v s' hv hs => ?_) _ (fun σ' δ' H' e' w' s' n' => q _ _ H' e' .non n') fun v d H' e' w' r' hd => q v d H' e' r' hd
    rw [List.getElem?_map] at hs
    cases e : ds[i]? with
    | none =>
      rw [e] at hs
      cases hs
    | some d =>
      rw [e] at hs
      rw [← (Option.some.inj hs : Ds.dat d = s')]
      obtain ⟨v', hv', rv⟩ := r.get e
      rw [hv] at hv'
      cases hv'
      exact ⟨v, rfl, rv⟩
theorem ok_defG {name : Str} {st : Stmt} {N ps : List Str} {k n : Nat} {Pre : List PyData → Prop} {Post : List PyData → PyData → Prop} (D : Dn K mg name st ps) (S : FnScope N ps (defScope st)) (hps : ps.length ≤ N.length) (hn1 : ps.length = n + 1)
    (hb : ∀ (f : Addr) (cdv : Value) (A : Around) (outer : List Env) (s : Shared) (H : Hp) (E : XK), Room k (A.deeper (envOfC name (defScope st) s.heap.objs.size f cdv)) → ∃ t, PSs (cxOf CX0 Pg w K mg base N name (defScope st) f cdv A outer s H E).nox (defBody st) t ∧
      ∀ (a : Addr) (ds : List PyData), ds.length = n → Pre ds → Run (some a) t (ent N (.adr a :: ds.map .dat)) (fun _ => Post ds .none) (Post ds)) : Ok Pg w K mg base name ps (k + 1) (spG n Pre Post) := by
  obtain ⟨f, fd, F, b, m⟩ := D.ex
  refine ⟨f, fd, F.kp, b, m, F.ok S (fun vs H Q E h => ?_) fun cdv A outer s H vs Q E hr h => ?_⟩
  · obtain ⟨a, us, M, ds, e, _, r, hn, _⟩ := h
    rw [e, List.length_cons, r.length, hn, hn1]
  · obtain ⟨t, ht, hrun⟩ := hb f cdv A outer s H E hr
    refine ⟨t, PSs.nox ht, ?_⟩
    obtain ⟨a, us, M, ds, rfl, wd, r, hn, hp, q⟩ := h
    refine hrun a ds hn hp M (L2.start N _) H wd (sl_start (by rw [List.length_cons, List.length_cons, List.length_map, r.length]) (by rw [List.length_cons, r.length, hn, ← hn1]; exact hps) fun i v s' hv hs => ?_) _ (fun σ' δ' H' e' w' s' n' => q _ _ H' e' w' .non n') fun v d H' e' w' r' hd => q v d H' e' w' r' hd
    cases i with
    | zero =>
      cases hs
      cases hv
      rfl
    | succ i =>
      have hs' : (ds.map Ds.dat)[i]? = some s' := by simpa using hs
      have hv1 : us[i]? = some v := by simpa using hv
      rw [List.getElem?_map] at hs'
      cases e : ds[i]? with
      | none =>
        rw [e] at hs'
        cases hs'
      | some d =>
        rw [e] at hs'
        rw [← (Option.some.inj hs' : Ds.dat d = s')]
        obtain ⟨v', hv', rv⟩ := r.get e
        rw [hv1] at hv'
        cases hv'
        exact ⟨v, rfl, rv⟩
end
end Sh

set_option maxHeartbeats 4000000
/-! Layer E: enumerate over a tuple, sum of lists, small things. -/
namespace Sh
open PySem PySem.Spec PyProof.Rows L2

theorem hu65 {k : Nat} {A : Around} (hr : Room k A) : A.units + 65 < cLine := by
  have h := hr.un
  omega
section
variable {X : Cx} {pos : Pos}
theorem pe_globI {x : Str} {n : Int} (hg : Gl X x) (hm : ∃ t, X.mg x = some (.int n t)) (hd : (x == ("__debug__" : Str)) = false := by decide) : PE X (.Name x pos) (tC (.int n)) := by
  obtain ⟨t, h⟩ := hm
  exact pe_glob hg h ⟨t, rfl⟩ hd
theorem pe_globS {x : Str} {n : Str} (hg : Gl X x) (hm : ∃ t, X.mg x = some (.str n t)) (hd : (x == ("__debug__" : Str)) = false := by decide) : PE X (.Name x pos) (tC (.str n)) := by
  obtain ⟨t, h⟩ := hm
  exact pe_glob hg h ⟨t, rfl⟩ hd
/-- range(a, b) as a value -/
def rRange2 : List V → Hp → VK → Prop := fun vs H Q => ∃ i j, vs = [V.int i, V.int j] ∧ ∀ p, H p = none → Q (.ref p) (upd H p (.rng i j))
theorem cr_rangeA : CallR X (.type "range") rRange2 := cr_range2
end
theorem run_setRng {c : Option Addr} {δ : List Ds} {N : List Ds → Prop} {R : PyData → Prop} {tl : TA} {j : Nat} {lo hi : Int} (h : EvL c tl δ [.int lo, .int hi]) (k : N (δ.set j (.rg lo hi))) : Run c (tAsg (tCB rRange2 tl) (gName j)) δ N R := fun M σ H w s D q1 q2 => by
  refine h M σ H w s _ fun vs ds H1 e1 w1 r1 hd => ?_
  subst hd
  cases r1 with
  | cons r1 t1 =>
    cases t1 with
    | cons r2 t2 =>
      cases t2
      cases r1
      cases r2
      refine ⟨lo, hi, rfl, fun p hp => ?_⟩
      refine q1 _ _ _ (e1.trans (Ex.new hp)) (w1.ex (Ex.new hp)) (((s.ex w e1).ex w1 (Ex.new hp)).set (s := .rg lo hi) ?_) k
      exact ⟨p, rfl, w1.fresh hp, upd_same⟩

/-! ### enumerate(tuple) -/
/-- the tuple at a, each item in a new pair behind its number -/
def ItEn (K : PySem.W.Frag) (a : Addr) : It :=
  ⟨fun i H => ∃ (xs : List V) (x : V), SqT K H a xs ∧ xs[i]? = some x, fun i H v H' => ∃ T x, v = .ref T ∧ H T = none ∧ H' = upd H T (.tup [.int (i : Nat), x]) ∧ ∀ xs, SqT K H a xs → xs[i]? = some x, fun i H => ∃ xs : List V, SqT K H a xs ∧ xs.length ≤ i⟩
theorem turnEn {P : Program} {w : World} {K : PySem.W.Frag} {elts : List Expr} {kk : Nat} {tpos : Pos} (a e it : Addr) :
    Turn P w K (.Tuple elts kk tpos) (ItEn K a) [e, it] e (fun i h => (∃ old, IsEnum h e it ((i : Nat) : Int) old) ∧ h.IsTupleIter it a i ∧ e ≠ it ∧ a ≠ it ∧ a ≠ e) where
  mem := List.mem_cons_self
  obj := by
    rintro i h ⟨⟨old, he⟩, ⟨o, ho, _, hd⟩, _⟩ b hb
    rcases List.mem_cons.mp hb with z | z
    · subst z
      exact ⟨_, he, fun v q => nomatch q⟩
    · rw [List.mem_singleton.mp z]
      refine ⟨o, ho, fun v q => ?_⟩
      rw [hd] at q
      cases q
  keep := by
    rintro i h h' ⟨⟨old, he⟩, hi, hne⟩ k
    exact ⟨⟨old, k e List.mem_cons_self _ he⟩, hi.at fun o q => k it (by simp) o q, hne⟩
  item := by
    intro X hP hw hK hc i pins s σ H E I hf st hg
    subst hP hw hK
    obtain ⟨⟨old, he⟩, hit, hne, hai, hae⟩ := st
    obtain ⟨xs, x, hq, hx⟩ := hg
    obtain ⟨its, rv, p, hz⟩ := I.tuple hq
    obtain ⟨u, hu, ru⟩ := rv.get hx
    have hel : e < s.heap.objs.size := Heap.lt_size he
    have hil : it < s.heap.objs.size := by
      obtain ⟨_, q, _⟩ := hit
      exact Heap.lt_size q
    have hin : i < its.toArray.size := by
      rw [List.size_toArray]
      exact (List.getElem?_eq_some_iff.mp hu).1
    refine wpAny_pyNext_enum_itemD (Draws.tuple (A := X.A.in1) (I.ok.hd hc) it a hai its.toArray) he ⟨hit, p⟩ hin hne (by simp [hne, Ne.symm hae]) fun y h' tk hy ho st' hT hsz hk => ?_
    have ey : y = u := by
      have h1 : its[i]? = some y := by simpa using hy
      rw [hu] at h1
      exact (Option.some.inj h1).symm
    subst ey
    refine ⟨_, rfl, wpAny_letOwnedTupleGo_enum (s := { s with heap := h', toks := tk + 1 }) ho fun h2 he2 sb => ?_⟩
    have hT2 : h2.get? s.heap.objs.size = some { cls := .type "tuple", data := .seq #[.int i tk, y] } := (sb.2 _ (Nat.ne_of_gt hel)).trans hT
    have new : ObjOk X.prog X.w (upd H s.heap.objs.size (.tup [.int (i : Nat), x])) h2 s.heap.objs.size (.tup [.int (i : Nat), x]) :=
      ⟨by show 2 ≤ sizeLine; decide, [.int i tk, y], .cons ⟨_, rfl⟩ (.cons ru .nil), ⟨_, hT2, rfl, _, rfl⟩⟩
    have J : Inv X pins σ (upd H s.heap.objs.size (.tup [.int (i : Nat), x])) { s with heap := h2, toks := tk + 1 } := by
      refine I.turnedNew (ch := [e, it]) (fun b ob hb q => ?_) hf (Nat.le_refl _) new
      have b1 : b ≠ e := fun z => hb (by rw [z]; exact List.mem_cons_self)
      have b2 : b ≠ it := fun z => hb (by rw [z]; exact List.mem_cons_of_mem _ List.mem_cons_self)
      exact (sb.2 b b1).trans (hk b ob b1 b2 q)
    refine ⟨.ref s.heap.objs.size, _, J, rfl, ⟨_, x, rfl, I.hok.fresh (Nat.le_refl _), rfl, fun ys hys => ?_⟩, ⟨⟨y, ?_⟩, ?_, hne, hai, hae⟩, fun b hb => ?_⟩
    · rw [I.tuple_inj hys hq]
      exact hx
    · have e1 : ((i + 1 : Nat) : Int) = (i : Int) + 1 := by omega
      rw [e1]
      exact he2
    · exact st'.1.at fun o q => (sb.2 it (Ne.symm hne)).trans q
    · have hb' : b < s.heap.objs.size := by
        rcases List.mem_cons.mp hb with z | z
        · rw [z]
          exact hel
        · rw [List.mem_singleton.mp z]
          exact hil
      rw [upd_ne (Nat.ne_of_lt hb')]
      exact (hf b hb).1
  done := by
    intro X hP hw hK hc i pins s σ H E I hf st hg
    subst hP hw hK
    obtain ⟨⟨old, he⟩, hit, hne, hai, hae⟩ := st
    obtain ⟨xs, hq, hx⟩ := hg
    obtain ⟨its, rv, p, hz⟩ := I.tuple hq
    obtain ⟨f0, f1, f2, f3, f4, f5⟩ := hf it (by simp)
    have hl := rv.length
    by_cases hi : i = its.toArray.size
    · subst hi
      exact wpAny_pyNext_enum_endD (Draws.tuple (A := X.A.in1) (I.ok.hd hc) it a hai its.toArray) he ⟨hit, p⟩ fun h' eb => ⟨rfl, I.turned (t' := s.toks) (fun b o hb q => eb b o hb q) f0 f1 f3 f4 f5⟩
    · refine wpAny_pyNext_enum_endD (n := i) (St := fun j h => j = i ∧ h.IsTupleIter it a i ∧ h.IsTuple a its.toArray) (P := fun _ _ => False) (fp := [it, a]) ⟨?_, ?_, ?_, ?_⟩ he ⟨rfl, hit, p⟩ fun h' eb => ⟨rfl, I.turned (t' := s.toks) (fun b o hb q => eb b o hb q) f0 f1 f3 f4 f5⟩
      · rintro j h ⟨_, ⟨o, ho, _⟩, _⟩
        exact ⟨o, ho⟩
      · rintro j h h' ⟨e, q1, q2⟩ hk
        exact ⟨e, q1.at fun o q => hk it (by simp) o q, q2.at fun o q => hk a (by simp) o q⟩
      · rintro j s' Q E' hj ⟨e, _⟩
        omega
      · rintro s' Q E' ⟨_, q1, q2⟩ hE
        refine wpAny_nextOf_tuple_end (I.ok.hd hc) q1 q2 ?_ hE
        rw [Array.getElem?_eq_none_iff, List.size_toArray]
        rw [List.size_toArray] at hi
        omega
  self := fun A i s Q E st h => by
    obtain ⟨⟨_, he⟩, _⟩ := st
    exact wpAny_pyIter_enum he h
def iEnT (K : PySem.W.Frag) (ta : TA) : TI := fun σ H R => ta σ H fun vs H1 => ∃ a xs, vs = [.ref a] ∧ SqT K H1 a xs ∧ R (ItEn K a) H1
theorem new_enum_tup (l : Addr) (items : Array Value) (n : Nat) (dct : Option Addr) (sl : Array (Option Value)) :
    Meets (Builtin.«enumerate.__new__» ⟨[.type "enumerate", .ref l], []⟩) (fun _ R s => s.heap.get? l = some { cls := .type "tuple", dict := dct, data := .seq items n, slots := sl } ∧
      R (.ok (.ret (.ref (s.heap.push { cls := .type "tuple_iterator", data := .fields #[.ref l, .int 0 0] }).objs.size)))
        { s with heap := (s.heap.push { cls := .type "tuple_iterator", data := .fields #[.ref l, .int 0 0] }).push { cls := .type "enumerate", data := .fields #[.none, .bool false, .ref s.heap.objs.size, rawInt 0, .none, .none] } }) :=
  .of_wp fun prog w A R s h => by
    obtain ⟨hp, g, d, tk, os⟩ := s
    obtain ⟨hl, h⟩ := h
    have hsub := sub_enumerate
    have hL : Heap.IsTuple (Shared.heap ⟨hp, g, d, tk, os⟩) l items := ⟨_, hl, rfl, n, rfl⟩
    wp_walk using AutoSeq1.wpAny_loadPart' hl
    refine wpAny_stack_any fun st => wpAny_pure ?_
    split
    · rename_i c _ _ _ _ _
      cases (c == Value.type "enumerate") <;> (wp_walk using AutoSeq1.wpAny_loadPart' hl, wpAny_pyIter_tuple hL; exact ⟨_, rfl, h⟩)
    · wp_walk using AutoSeq1.wpAny_loadPart' hl, wpAny_pyIter_tuple hL
      exact ⟨_, rfl, h⟩
theorem call_enum_tup {prog : Program} {w : World} {A : Around} {E : Value → Shared → Prop} {s : Shared} {l : Addr} {items : Array Value} {Q : Value → Shared → Prop} (hL : s.heap.IsTuple l items)
    (h : ∀ h', IsEnum h' (s.heap.objs.size + 1) s.heap.objs.size 0 .none → h'.IsTupleIter s.heap.objs.size l 0 → (∀ b o, s.heap.get? b = some o → h'.get? b = some o) → Q (.ref (s.heap.objs.size + 1)) { s with heap := h' }) :
    wpAny (model prog w) A (call (.type "enumerate") [.ref l]) Q E s := by
  obtain ⟨⟨c, dct, dt, sl⟩, hl, hc, n, hd⟩ := hL
  cases (show c = .type "tuple" from hc)
  cases (show dt = .seq items n from hd)
  refine callType_new F.called_enumerate (by decide) (F.typeCall_enumerate_1 _) (F.newCall_enumerate_1 _) (fun obj => F.args_object_init_2 obj _) F.entry_enumerate_new (new_enum_tup l items n dct sl) ⟨hl, ?_⟩
  have hz : ∀ o : Obj, (s.heap.push o).objs.size = s.heap.objs.size + 1 := fun o => Heap.size_push ..
  show _ ∧ _
  rw [hz]
  have he : ∀ o : Obj, IsEnum ((s.heap.push o).push { cls := .type "enumerate", data := .fields #[.none, .bool false, .ref s.heap.objs.size, rawInt 0, .none, .none] }) (s.heap.objs.size + 1) s.heap.objs.size 0 .none := fun o => by
    have q := Heap.get?_push_size (s.heap.push o) (o := { cls := .type "enumerate", data := .fields #[.none, .bool false, .ref s.heap.objs.size, rawInt 0, .none, .none] }) rfl
    rw [hz] at q
    exact q
  exact ⟨⟨_, he _, rfl⟩, h _ (he _) ⟨_, Heap.get?_push_of_some _ (Heap.get?_push_size _ rfl), rfl, rfl⟩ fun b o x => Heap.get?_push_of_some _ (Heap.get?_push_of_some _ x)⟩
theorem pi_enumT {X : Cx} {e : Expr} {ta : TA} {p pos tpos : Pos} {elts : List Expr} {kk : Nat} (hg : Gl X "enumerate") (hm : X.mg "enumerate" = none) (ha : PA X [e] ta) (hs : starEach [e] X.env = [(false, eval e X.env)] := by rfl) :
    PI X (.Tuple elts kk tpos) (.Call (.Name "enumerate" p) [e] [] pos) (iEnT X.K ta) := by
  refine ⟨fun pins s σ H R I h => ?_⟩
  refine Call_ (ld_blt I hg hm boot_enumerate (PyProof.Rows.callWith_type1 (thn (ha.run pos pins s σ H _ I h) fun us s1 ⟨vs, H1, I1, r1, a, xs, ex, hq, q⟩ => ?_) hs rfl))
  subst ex
  obtain ⟨u, rfl, ru⟩ := vals1 r1
  cases ru
  obtain ⟨its, rv, p', hz⟩ := I1.tuple hq
  have hal : a < s1.heap.objs.size := p'.lt
  refine call_enum_tup p' fun h' he hit hk => wpAny_pyIter_enum he ?_
  refine ⟨s1.heap.objs.size + 1, [s1.heap.objs.size + 1, s1.heap.objs.size], _, _, H1, rfl, I1.kept (t' := s1.toks) hk, turnEn a (s1.heap.objs.size + 1) s1.heap.objs.size, ⟨⟨.none, he⟩, hit, Nat.succ_ne_self _, Nat.ne_of_lt hal, Nat.ne_of_lt (Nat.lt_succ_of_lt hal)⟩, fun b hb => ?_, q⟩
  have hle : s1.heap.objs.size ≤ b := by
    rcases List.mem_cons.mp hb with z | z
    · rw [z]
      exact Nat.le_succ _
    · rw [List.mem_singleton.mp z]
      exact Nat.le_refl _
  exact I1.fpOk hle (I1.hok.fresh hle)
/-- the numbered items -/
def enumD (ds : List PyData) : List PyData := (List.range ds.length).map fun i => .tuple [.int (i : Nat), ds.getD i .none]
theorem wk_enum {c : Option Addr} {tl : TA} {δ : List Ds} {ds : List PyData} {K : PySem.W.Frag} (h : EvL c tl δ [.tuple ds]) : Wk c (iEnT K tl) δ (IsItems (enumD ds)) := fun M σ H w s R q => by
  refine h M σ H w s _ fun vs dd H1 e1 w1 r1 ed => ?_
  subst ed
  cases r1 with
  | cons r1 t1 =>
    cases t1
    cases r1 with
    | tup n e sa =>
      refine ⟨_, _, rfl, SqT.of e, ?_⟩
      have hlen : (enumD ds).length = ds.length := by simp [enumD]
      refine q _ H1 _ (fun i => (enumD ds).getD i .none) e1 w1 ⟨rfl, fun _ => rfl⟩ (fun i M' H2 hi hM ht hk => ?_) fun H2 hk => ?_
      · rw [hlen] at hi
        have e2 := hk _ _ n e
        obtain ⟨v, hv, rv⟩ := sa.get (List.getElem?_eq_getElem hi)
        refine ⟨⟨_, v, SqT.of e2, hv⟩, fun x H3 y => ?_⟩
        obtain ⟨T, y, rfl, hT, rfl, hy⟩ := y
        have ey : y = v := Option.some.inj ((hy _ (SqT.of e2)).symm.trans hv)
        subst ey
        refine ⟨Ex.new hT, ?_⟩
        have ei : (enumD ds)[i]? = some (.tuple [.int (i : Nat), ds[i]]) := by
          unfold enumD
          rw [List.getElem?_map, List.getElem?_range hi]
          show some (PyData.tuple [.int (i : Nat), ds.getD i .none]) = _
          rw [getD_of (List.getElem?_eq_getElem hi)]
        show Rp M' _ _ ((enumD ds).getD i .none)
        rw [getD_of ei]
        refine .tup (fun m => ht T m hT) upd_same (.cons (.int _) (Rps.one ?_))
        exact Rp.mono (fun _ _ m _ => m) (fun a o _ e => ex_none (Ex.new hT) e) _ (Rp.mono hM hk _ rv)
      · exact ⟨_, SqT.of (hk _ _ n e), by rw [sa.length, hlen]; exact Nat.le_refl _⟩

/-! ### sum(lists, []) -/
theorem sub_list_bytes' : isSubtype (.type "list") (.type "bytes") = pure false := by rw [isSubtype_type]; kernel_rfl
theorem args_sum2 (a b : Value) : argsOk "sum" ⟨[a, b], []⟩ := by
  unfold argsOk
  kernel_rfl
section
variable {prog : Program} {w : World} {A : Around} {E : Value → Shared → Prop} {R : Result → Shared → Prop}
/-- the list cell at a with the values xs -/
def LstAt (h : Heap) (a : Addr) (xs : List Value) : Prop := ∃ n, h.get? a = some { cls := .type "list", data := .seq xs.toArray n }
theorem sum_lists_loop (hh : A.handled = none) {I S l : Addr} {items : Array Value} (hIl : l ≠ I) (hSI : S ≠ I) (hSl : S ≠ l) (h0 : Heap) (hS0 : h0.get? S = none) (hIs : h0.objs.size ≤ I) (rows : List (List Value)) (hrl : rows.length = items.size)
    (hrow : ∀ (i : Nat) (xs : List Value), rows[i]? = some xs → ∃ a, items[i]? = some (.ref a) ∧ LstAt h0 a xs) (st0 : List Value) (hbig : (st0 ++ rows.flatten).length ≤ 100000) :
    ∀ (k i : Nat) (s : Shared) (t : Addr) (c : Nat), items.size - i = k → i ≤ items.size → (s.heap.IsListIter I l i ∧ s.heap.IsList l items) → (∀ b o, h0.get? b = some o → s.heap.get? b = some o) →
      s.heap.get? S = some { cls := .type "list", data := .seq #[.ref t] c } → LstAt s.heap t (st0 ++ (rows.take i).flatten) → t ≠ S → t ≠ I → (0 < i → h0.objs.size ≤ t) →
      (∀ (h' : Heap) (tk : Nat) (t' : Addr), (∀ b o, h0.get? b = some o → h'.get? b = some o) → LstAt h' t' (st0 ++ rows.flatten) → (0 < items.size → h0.objs.size ≤ t') → R (.ok (.ret (.ref t'))) { s with heap := h', toks := tk }) →
      codeAny (model prog w) A (.builtin "sum.loop" ⟨[.ref I, .ref S, rawInt 2, rawInt 0], []⟩) R s := by
  have hI0 : h0.get? I = none := Heap.get?_none_of_le hIs
  have W := Walks.list (prog := prog) (w := w) (A := A.in1) hh I l hIl items
  intro k
  induction k with
  | zero =>
    intro i s t c hk hi hst hkeep hS ht htS htI hnew hR
    have hin : i = items.size := by omega
    subst hin
    refine codeAny_builtin F.entry_sum_loop ?_
    rw [Around.under_plainId F.plain_sum_loop _]
    show wpAny _ A.in1 (seqItems? (.ref S) >>= _) _ _ s
    refine wpAny_bind (wpAny_seqItems hS rfl ?_)
    show wpAny _ A.in1 (tryCatch (pyNext (.ref I)) _ >>= _) _ _ s
    refine wpAny_bind (wpAny_tryCatch (W.done s _ _ hst fun h' tk hm => ?_))
    have nI : ∀ b o, h0.get? b = some o → b ∉ [I] := fun b o e z => by
      rw [List.mem_singleton.mp z, hI0] at e
      cases e
    refine wpAny_pure (hR h' tk t (fun b o e => hm b o (nI b o e) (hkeep b o e)) ?_ hnew)
    rw [← hrl, List.take_length] at ht
    obtain ⟨n, hn⟩ := ht
    exact ⟨n, hm t _ (by simpa using htI) hn⟩
  | succ k ih =>
    intro i s t c hk hi hst hkeep hS ht htS htI hnew hR
    have hlt : i < items.size := by omega
    refine codeAny_builtin F.entry_sum_loop ?_
    rw [Around.under_plainId F.plain_sum_loop _]
    show wpAny _ A.in1 (seqItems? (.ref S) >>= _) _ _ s
    refine wpAny_bind (wpAny_seqItems hS rfl ?_)
    show wpAny _ A.in1 (tryCatch (pyNext (.ref I)) _ >>= _) _ _ s
    refine wpAny_bind (wpAny_tryCatch (W.item i s _ _ hlt hst fun v h1 tk1 hP hst1 hm => ?_))
    have nI : ∀ b o, h0.get? b = some o → b ∉ [I] := fun b o e z => by
      rw [List.mem_singleton.mp z, hI0] at e
      cases e
    have hri : rows[i]? = some (rows[i]'(by omega)) := List.getElem?_eq_getElem (by omega)
    obtain ⟨a, ha, n2, hn2⟩ := hrow i _ hri
    have hP' : items[i]? = some v := hP
    have hva : v = .ref a := Option.some.inj (hP'.symm.trans ha)
    subst hva
    have hk1 : ∀ b o, h0.get? b = some o → h1.get? b = some o := fun b o e => hm b o (nI b o e) (hkeep b o e)
    have hS1 : h1.get? S = _ := hm S _ (by simpa using hSI) hS
    obtain ⟨n1, hn1⟩ := ht
    have ht1 : h1.get? t = _ := hm t _ (by simpa using htI) hn1
    have ha1 := hk1 a _ hn2
    have htk : rows.take (i + 1) = rows.take i ++ [rows[i]'(by omega)] := by
      rw [List.take_add_one, hri] <;> rfl
    have hsum : (st0 ++ (rows.take i).flatten).length + (rows[i]'(by omega)).length ≤ 100000 := by
      have e : rows.flatten = (rows.take (i + 1)).flatten ++ (rows.drop (i + 1)).flatten := by rw [← List.flatten_append, List.take_append_drop]
      rw [e, htk, List.flatten_append] at hbig
      simp only [List.length_append, List.flatten_cons, List.flatten_nil, List.append_nil] at hbig
      rw [List.length_append]
      omega
    show wpAny _ A.in1 ((holding [Value.ref a] (binaryOp .Add (.ref t) (.ref a))).attempt >>= _) _ _ _
    refine wpAny_bind (wpAny_attempt (wpAny_holding (P.add_list (s := { s with heap := h1, toks := tk1 }) ht1 ha1 ?_ (by rw [List.size_toArray, List.size_toArray]; exact big_le hsum))))
    have hszS : S < h1.objs.size := Heap.lt_size hS1
    have hsz1 : (h1.push { cls := .type "list", data := .seq ((st0 ++ (rows.take i).flatten).toArray ++ (rows[i]'(by omega)).toArray) }).objs.size = h1.objs.size + 1 := Heap.size_push ..
    have hS2 : (h1.push { cls := .type "list", data := .seq ((st0 ++ (rows.take i).flatten).toArray ++ (rows[i]'(by omega)).toArray) }).get? S = _ := Heap.get?_push_of_some _ hS1
    have hnewL := Heap.get?_push_size h1 (o := { cls := .type "list", data := .seq ((st0 ++ (rows.take i).flatten).toArray ++ (rows[i]'(by omega)).toArray) }) rfl
    have hkp : ∀ b o, h1.get? b = some o → (h1.push { cls := .type "list", data := .seq ((st0 ++ (rows.take i).flatten).toArray ++ (rows[i]'(by omega)).toArray) }).get? b = some o := fun b o e => Heap.get?_push_of_some _ e
    generalize hG : h1.push { cls := .type "list", data := .seq ((st0 ++ (rows.take i).flatten).toArray ++ (rows[i]'(by omega)).toArray) } = h2 at hS2 hnewL hkp hsz1 ⊢
    have hI1 : I < h1.objs.size := by
      obtain ⟨_, q, _⟩ := hst1.1
      exact Heap.lt_size q
    show wpAny _ A.in1 (updateSeq S (fun _ => #[.ref h1.objs.size]) >>= _) _ _ _
    refine wpAny_bind (wpAny_updateSeq hS2 rfl ?_)
    have hS3 := Heap.get?_update_self (Obj.mapSeq fun _ => #[Value.ref h1.objs.size]) hS2 rfl
    have ot3 : ∀ b, b ≠ S → (h2.update S (Obj.mapSeq fun _ => #[Value.ref h1.objs.size])).get? b = h2.get? b := fun b hb => Heap.get?_update_other _ _ (Ne.symm hb)
    have sz3 : (h2.update S (Obj.mapSeq fun _ => #[Value.ref h1.objs.size])).objs.size = h2.objs.size := Heap.size_after_update ..
    generalize h2.update S (Obj.mapSeq fun _ => #[Value.ref h1.objs.size]) = h3 at hS3 ot3 sz3 ⊢
    refine wpAny_bind (wpAny_letGo ?_)
    refine wpAny_bind (wpAny_updateSeq hS3 rfl ?_)
    have hS4 := Heap.get?_update_self (Obj.mapSeq fun _ => #[Value.ref h1.objs.size]) hS3 rfl
    have ot4 : ∀ b, b ≠ S → (h3.update S (Obj.mapSeq fun _ => #[Value.ref h1.objs.size])).get? b = h3.get? b := fun b hb => Heap.get?_update_other _ _ (Ne.symm hb)
    have sz4 : (h3.update S (Obj.mapSeq fun _ => #[Value.ref h1.objs.size])).objs.size = h3.objs.size := Heap.size_after_update ..
    generalize h3.update S (Obj.mapSeq fun _ => #[Value.ref h1.objs.size]) = h4 at hS4 ot4 sz4 ⊢
    have hall : ∀ b o, b ≠ S → h1.get? b = some o → h4.get? b = some o := fun b o hb e => by rw [ot4 b hb, ot3 b hb]; exact hkp b o e
    refine wpAny_pure ⟨plainId_quiet F.plain_sum_loop _, ih (i + 1) _ h1.objs.size _ (by omega) hlt ⟨hst1.1.at fun o e => hall I o (Ne.symm hSI) e, hst1.2.at fun o e => hall l o (Ne.symm hSl) e⟩ (fun b o e => ?_) hS4 ⟨0, ?_⟩ (Nat.ne_of_gt hszS) (Nat.ne_of_gt hI1) (fun _ => ?_) fun h' tk t' a1 a2 a3 => ?_⟩
    · refine hall b o (fun z => ?_) (hk1 b o e)
      rw [z, hS0] at e
      cases e
    · rw [ot4 _ (Nat.ne_of_gt hszS), ot3 _ (Nat.ne_of_gt hszS), hnewL, htk, List.flatten_append]
      simp
    · exact Nat.le_of_lt (Nat.lt_of_le_of_lt hIs hI1)
    · exact hR h' tk t' a1 a2 a3
end
section
variable {prog : Program} {w : World} {A : Around} {E : Value → Shared → Prop} {s : Shared} {Q : Value → Shared → Prop}
theorem call_sum_lists (hh : A.handled = none) {l t0 : Addr} {items : Array Value} (hl : s.heap.IsList l items) (ht0 : LstAt s.heap t0 []) (rows : List (List Value)) (hrl : rows.length = items.size) (hne : 0 < items.size)
    (hrow : ∀ (i : Nat) (xs : List Value), rows[i]? = some xs → ∃ a, items[i]? = some (.ref a) ∧ LstAt s.heap a xs) (hbig : rows.flatten.length ≤ 100000)
    (h : ∀ (h' : Heap) (tk : Nat) (t' : Addr), (∀ b o, s.heap.get? b = some o → h'.get? b = some o) → LstAt h' t' rows.flatten → s.heap.objs.size ≤ t' → Q (.ref t') { s with heap := h', toks := tk }) :
    wpAny (model prog w) A (call (.builtin "sum") [.ref l, .ref t0]) Q E s := by
  refine call_function_tree F.kind_sum F.plain_sum F.entry_sum (args_sum2 _ _) ?_
  unfold Builtin.«sum»
  simp only [List.length_cons, List.length_nil]
  rw [if_neg (by decide)]
  refine wpAny_bind (wpAny_of_eq (show Builtin.Builtins.bindParams "sum" ["start"] 0 { pos := [.ref t0] } = pure [some (.ref t0)] from rfl) ?_)
  refine wpAny_bind (wpAny_pyIter_list hl ?_)
  have hT : ∀ (h1 : Heap) (b : Addr) (xs : List Value), LstAt h1 b xs → ({ s with heap := h1 } : Shared).TypeIs (.ref b) "list" := fun h1 b xs e => by
    obtain ⟨n, e⟩ := e
    exact Heap.IsList.typeIs (s := { s with heap := h1 }) ⟨_, e, rfl, n, rfl⟩
  have hal : l < s.heap.objs.size := by
    obtain ⟨o, q, _⟩ := hl
    exact Heap.lt_size q
  have h1 : LstAt (s.heap.push { cls := .type "list_iterator", data := .fields #[.ref l, .int 0 0] }) t0 [] := by
    obtain ⟨n, e⟩ := ht0
    exact ⟨n, Heap.get?_push_of_some _ e⟩
  have hT1 := hT _ _ _ h1
  have ht0l : t0 < s.heap.objs.size := by
    obtain ⟨n, e⟩ := ht0
    exact Heap.lt_size e
  have hsz : (s.heap.push { cls := .type "list_iterator", data := .fields #[.ref l, .int 0 0] }).objs.size = s.heap.objs.size + 1 := Heap.size_push _ _
  refine wpAny_bind (wpAny_pure ?_)
  simp only [List.forIn_cons, List.forIn_nil]
  refine wpAny_bind (wpAny_bind (wpAny_bind (wpAny_isInstance hT1 F.sub_list_str ?_)))
  simp only [Bool.false_eq_true, if_false]
  refine wpAny_pure (wpAny_bind (wpAny_bind (wpAny_isInstance hT1 sub_list_bytes' ?_)))
  simp only [Bool.false_eq_true, if_false]
  refine wpAny_pure (wpAny_bind (wpAny_bind (wpAny_isInstance hT1 F.sub_list_bytearray ?_)))
  simp only [Bool.false_eq_true, if_false]
  refine wpAny_pure (wpAny_pure ?_)
  refine wpAny_bind (wpAny_newObj_type ?_)
  have hlt : l ≠ s.heap.objs.size := Nat.ne_of_lt hal
  refine wpAny_pure ⟨plainId_quiet F.plain_sum_loop _, sum_lists_loop (items := items) (l := l) (I := s.heap.objs.size) hh hlt (by rw [hsz]; exact Nat.succ_ne_self _) (by rw [hsz]; exact Nat.ne_of_gt (Nat.lt_succ_of_lt hal)) s.heap (Heap.get?_none_of_le (by rw [hsz]; exact Nat.le_succ _)) (Nat.le_refl _) rows hrl hrow [] (by simpa using hbig)
    items.size 0 _ t0 0 rfl (Nat.zero_le _) ⟨⟨_, Heap.get?_push_of_some _ (Heap.get?_push_size _ rfl), rfl, rfl⟩, (hl.push _).push _⟩ (fun b o e => Heap.get?_push_of_some _ (Heap.get?_push_of_some _ e)) (Heap.get?_push_size _ rfl) ?_ (by rw [hsz]; exact Nat.ne_of_lt (Nat.lt_succ_of_lt ht0l)) (Nat.ne_of_lt ht0l) (fun z => absurd z (Nat.lt_irrefl _)) fun h' tk t' a1 a2 a3 => ?_⟩
  · obtain ⟨n, e⟩ := h1
    exact ⟨n, Heap.get?_push_of_some _ e⟩
  · exact h h' tk t' a1 (by simpa using a2) (a3 hne)
end
/-- sum of a list of lists, the start being an empty list -/
def rSumL (_ : PySem.W.Frag) : List V → Hp → VK → Prop := fun vs H Q => ∃ (a t0 : Addr) (bs : List Addr) (xss : List (List V)), vs = [.ref a, .ref t0] ∧ H a = some (.lst (bs.map V.ref)) ∧ H t0 = some (.lst []) ∧ 0 < bs.length ∧ xss.length = bs.length ∧
  (∀ (i : Nat) (b : Addr) xs, bs[i]? = some b → xss[i]? = some xs → H b = some (.lst xs)) ∧ xss.flatten.length ≤ 1000 ∧ ∀ p, H p = none → Q (.ref p) (upd H p (.lst xss.flatten))
theorem refs_of : ∀ {bs : List Addr} {us : List Value}, Vals (bs.map V.ref) us → us = bs.map Value.ref
  | [], _, .nil => rfl
  | b :: bs, _, .cons r t => by
    have e : _ = Value.ref b := r
    rw [e, refs_of (bs := bs) t]
    rfl
theorem lst_at {X : Cx} {pins : List (Addr × Obj)} {σ : L2.St} {H : Hp} {s : Shared} (I : Inv X pins σ H s) {b : Addr} {xs : List V} (h : H b = some (.lst xs)) : ∃ its, Vals xs its ∧ LstAt s.heap b its := by
  obtain ⟨z, its, n, rv, e⟩ := I.hok b _ h
  exact ⟨its, rv, n, e⟩
theorem Inv.lists {X : Cx} {pins : List (Addr × Obj)} {σ : L2.St} {H : Hp} {s : Shared} (I : Inv X pins σ H s) : ∀ (bs : List Addr) (xss : List (List V)), xss.length = bs.length → (∀ (i : Nat) (b : Addr) xs, bs[i]? = some b → xss[i]? = some xs → H b = some (.lst xs)) →
    ∃ rows : List (List Value), rows.length = bs.length ∧ Vals xss.flatten rows.flatten ∧ ∀ (i : Nat) (ys : List Value), rows[i]? = some ys → ∃ a, bs[i]? = some a ∧ LstAt s.heap a ys
  | [], [], _, _ => ⟨[], rfl, .nil, fun i ys e => by simp at e⟩
  | b :: bs, xs :: xss, hl, h => by
    obtain ⟨rows, h1, h2, h3⟩ := Inv.lists I bs xss (by simpa using hl) fun i b' xs' e1 e2 => h (i + 1) b' xs' (by simpa using e1) (by simpa using e2)
    obtain ⟨its, rv, hp⟩ := lst_at I (h 0 b xs rfl rfl)
    refine ⟨its :: rows, by simp [h1], by simpa using Vals.append rv h2, fun i ys e => ?_⟩
    cases i with
    | zero =>
      have e' : its = ys := by simpa using e
      subst e'
      exact ⟨b, rfl, hp⟩
    | succ i =>
      obtain ⟨a, e1, e2⟩ := h3 i ys (by simpa using e)
      exact ⟨a, by simpa using e1, e2⟩
  | [], _ :: _, hl, _ => by simp at hl
  | _ :: _, [], hl, _ => by simp at hl
theorem cr_sumL {k : Nat} {X : Cx} (hr : Room k X.A) : CallR X (.builtin "sum") (rSumL X.K) := by
  intro pins s σ H vs us Q I r h
  obtain ⟨a, t0, bs, xss, rfl, ha, ht, hne, hlen, hrow, hbig, q⟩ := h
  obtain ⟨its, rv, n, hl⟩ := lst_at I ha
  obtain ⟨it0, rv0, hl0⟩ := lst_at I ht
  cases rv0
  obtain ⟨u, w, rfl, ru, rw'⟩ := vals2 r
  cases ru
  cases rw'
  obtain ⟨rows, h1, h2, h3⟩ := Inv.lists I bs xss hlen hrow
  have ei := refs_of rv
  subst ei
  have hsz : (bs.map Value.ref).toArray.size = bs.length := by simp
  refine call_sum_lists hr.hd (items := (bs.map Value.ref).toArray) ⟨_, hl, rfl, n, rfl⟩ hl0 rows (by rw [hsz, h1]) (by rw [hsz]; exact hne) (fun i ys e => ?_) (by rw [← h2.length]; exact Nat.le_trans hbig (by decide)) fun h' tk t' k1 k2 k3 => ?_
  · obtain ⟨b, e1, e2⟩ := h3 i ys e
    exact ⟨b, by simp [e1], e2⟩
  · obtain ⟨m, k2⟩ := k2
    exact ⟨.ref t', upd H t' (.lst xss.flatten), I.laid (t' := tk) (o := .lst xss.flatten) k1 k3 ⟨by rw [sizeLine_eq]; omega, rows.flatten, m, h2, k2⟩, rfl, q t' (I.hok.fresh k3)⟩
theorem refs_data {M : Addr → Prop} {H : Hp} : ∀ {vs : List V} {dss : List (List PyData)}, Rps M H vs (dss.map .list) → ∃ (bs : List Addr) (xss : List (List V)), vs = bs.map V.ref ∧ bs.length = dss.length ∧ xss.length = bs.length ∧
    (∀ (i : Nat) (b : Addr) xs, bs[i]? = some b → xss[i]? = some xs → H b = some (.lst xs)) ∧ Rps M H xss.flatten dss.flatten
  | _, [], h => by
    cases h
    exact ⟨[], [], rfl, rfl, rfl, fun i b xs e => by simp at e, .nil⟩
  | _, ds :: dss, h => by
    cases h with
    | cons r t =>
      obtain ⟨bs, xss, rfl, h1, h2, h3, h4⟩ := refs_data t
      cases r with
      | lst n e s =>
        refine ⟨_ :: bs, _ :: xss, rfl, by simp [h1], by simp [h2], fun i b xs e1 e2 => ?_, by simpa using Rps.append s h4⟩
        cases i with
        | zero =>
          have e1 := Option.some.inj e1
          have e2 := Option.some.inj e2
          rw [← e1, ← e2]
          exact e
        | succ i => exact h3 i b xs (by simpa using e1) (by simpa using e2)
theorem rl_sumL {K : PySem.W.Frag} {dss : List (List PyData)} (h0 : 0 < dss.length) (hb : dss.flatten.length ≤ 1000) : RDL (rSumL K) [.list (dss.map .list), .list []] fun d => d = .list dss.flatten := fun M H vs t r Q q => by
  cases r with
  | cons r1 r2 =>
    cases r2 with
    | cons r2 r3 =>
      cases r3
      cases r1 with
      | lst n1 e1 s1 =>
        cases r2 with
        | lst n2 e2 s2 =>
          cases s2
          obtain ⟨bs, xss, rfl, h1, h2, h3, h4⟩ := refs_data s1
          refine ⟨_, _, bs, xss, rfl, e1, e2, by omega, h2, h3, by rw [h4.length]; exact hb, fun p hp => ?_⟩
          exact q _ _ _ (Ex.new hp) (.lst (fun m => t p m hp) upd_same (Rps.mono (fun _ _ m _ => m) (fun a o _ e => ex_none (Ex.new hp) e) _ h4)) rfl
end Sh

set_option maxHeartbeats 4000000
/-! Layer F: sets of texts and of tuples that hold texts, ints and tuples. -/
namespace Sh
open PySem PySem.Spec PyProof.Rows L2

section
variable {P : Program} {w : World} {E : Value → Shared → Prop}
/-! no class statement stands in a key -/
mutual
theorem class_key : ∀ (k : NestedKey) (v : Value) (n : Nat) (A : Around) (s : Shared) (Q : Bool → Shared → Prop), NestedIs s.heap k v → k.depth ≤ n → Q false s → wpAny (model P w) A (ofAClassStatement n v) Q E s
  | .none, _, n, A, s, Q, x, _, h => by
    cases x
    cases n <;> exact wpAny_pure h
  | .num i, _, n, A, s, Q, x, _, h => by
    cases x <;> cases n <;> exact wpAny_pure h
  | .text y, _, n, A, s, Q, x, _, h => by
    cases x
    cases n <;> exact wpAny_pure h
  | .tup ks, _, 0, A, s, Q, x, hn, h => absurd hn (by simp [NestedKey.depth])
  | .tup ks, _, n + 1, A, s, Q, x, hn, h => by
    cases x with
    | @tup a o vs m _ ho hc hd hk =>
      have hT : s.TypeIs (.ref a) "tuple" := ⟨o, ho, hc⟩
      unfold ofAClassStatement
      refine wpAny_bind (wpAny_typeOf hT ?_)
      dsimp only
      have e : (("tuple" : String) == "tuple") = true := by decide
      simp only [e, if_true, Bool.not_true, Bool.false_eq_true, if_false]
      try refine wpAny_bind (wpAny_pure ?_)
      try simp only [Bool.not_true, Bool.false_eq_true, if_false]
      show wpAny _ _ (seqItems? (.ref a) >>= _) _ _ s
      refine wpAny_bind (wpAny_seqItems ho hd ?_)
      dsimp only
      refine wpAny_bind ?_
      show wpAny _ _ (forIn vs _ _) _ _ s
      rw [← Array.forIn_toList]
      have hall := class_keys ks vs.toList n s hk (by simp only [NestedKey.depth] at hn; omega)
      refine wpAny_forIn_list _ (fun rest r s' => r.1 = none ∧ s' = s ∧ ∀ v ∈ rest, v ∈ vs.toList) _ ?_ ?_ _ _ ⟨rfl, rfl, fun v hv => hv⟩
      · rintro v rest r s' ⟨hr, rfl, hin⟩
        refine wpAny_bind (hall v (hin v List.mem_cons_self) _ _ ?_)
        simp only [Bool.false_eq_true, if_false]
        exact wpAny_pure ⟨rfl, rfl, fun u hu => hin u (List.mem_cons_of_mem _ hu)⟩
      · rintro ⟨r1, r2⟩ s' ⟨hr, rfl, _⟩
        simp only at hr
        subst hr
        exact wpAny_pure h
theorem class_keys : ∀ (ks : List NestedKey) (vs : List Value) (n : Nat) (s : Shared), NestedAll s.heap ks vs → NestedKey.depthAll ks ≤ n → ∀ v ∈ vs, ∀ (A : Around) (Q : Bool → Shared → Prop), Q false s → wpAny (model P w) A (ofAClassStatement n v) Q E s
  | [], _, n, s, x, _, v, hv => by
    cases x
    cases hv
  | k :: ks, _, n, s, x, hn, v, hv => by
    cases x with
    | cons x1 x2 =>
      simp only [NestedKey.depthAll] at hn
      intro A Q h
      rcases List.mem_cons.mp hv with e | hv
      · rw [e]
        exact class_key k _ n A s Q x1 (by omega) h
      · exact class_keys ks _ n s x2 (by omega) v hv A Q h
end
/-! is a key told by its value: some answer -/
mutual
theorem byval_key : ∀ (k : NestedKey) (v : Value) (n : Nat) (A : Around) (s : Shared) (Q : Bool → Shared → Prop), NestedIs s.heap k v → k.depth ≤ n → (∀ r, Q r s) → wpAny (model P w) A (hashByValue n v) Q E s
  | .none, _, n, A, s, Q, x, _, h => by
    cases x
    cases n <;> exact wpAny_pure (h _)
  | .num i, _, n, A, s, Q, x, _, h => by
    cases x <;> cases n <;> exact wpAny_pure (h _)
  | .text y, _, n, A, s, Q, x, _, h => by
    cases x
    cases n <;> exact wpAny_pure (h _)
  | .tup ks, _, 0, A, s, Q, x, hn, h => absurd hn (by simp [NestedKey.depth])
  | .tup ks, _, n + 1, A, s, Q, x, hn, h => by
    cases x with
    | @tup a o vs m _ ho hc hd hk =>
      have hT : s.TypeIs (.ref a) "tuple" := ⟨o, ho, hc⟩
      unfold hashByValue
      refine wpAny_bind (wpAny_specialOf hT F.slot_tuple_hash.lookup ?_)
      show wpAny _ _ (seqItems? (.ref a) >>= _) _ _ s
      refine wpAny_bind (wpAny_seqItems ho hd ?_)
      refine wpAny_bind ?_
      show wpAny _ _ (forIn vs _ _) _ _ s
      rw [← Array.forIn_toList]
      have hall := byval_keys ks vs.toList n s hk (by simp only [NestedKey.depth] at hn; omega)
      refine wpAny_forIn_list _ (fun rest r s' => r.1 = none ∧ s' = s ∧ ∀ v ∈ rest, v ∈ vs.toList) _ ?_ ?_ _ _ ⟨rfl, rfl, fun v hv => hv⟩
      · rintro v rest r s' ⟨hr, rfl, hin⟩
        refine wpAny_bind (hall v (hin v List.mem_cons_self) _ _ fun r => ?_)
        cases r
        · simp only [Bool.not_false, if_true]
          exact wpAny_pure (wpAny_pure (h false))
        · simp only [Bool.not_true, Bool.false_eq_true, if_false]
          exact wpAny_pure ⟨rfl, rfl, fun u hu => hin u (List.mem_cons_of_mem _ hu)⟩
      · rintro ⟨r1, r2⟩ s' ⟨hr, rfl, _⟩
        simp only at hr
        subst hr
        exact wpAny_pure (h true)
theorem byval_keys : ∀ (ks : List NestedKey) (vs : List Value) (n : Nat) (s : Shared), NestedAll s.heap ks vs → NestedKey.depthAll ks ≤ n → ∀ v ∈ vs, ∀ (A : Around) (Q : Bool → Shared → Prop), (∀ r, Q r s) → wpAny (model P w) A (hashByValue n v) Q E s
  | [], _, n, s, x, _, v, hv => by
    cases x
    cases hv
  | k :: ks, _, n, s, x, hn, v, hv => by
    cases x with
    | cons x1 x2 =>
      simp only [NestedKey.depthAll] at hn
      intro A Q h
      rcases List.mem_cons.mp hv with e | hv
      · rw [e]
        exact byval_key k _ n A s Q x1 (by omega) h
      · exact byval_keys ks _ n s x2 (by omega) v hv A Q h
end

/-! ### the set as all ends want it -/
/-- one entry's value and its key -/
abbrev En : Type := Value × NestedKey
abbrev nh (w : World) (k : NestedKey) : Int := NestedKey.hash w k
structure SetE (w : World) (h : Heap) (a : Addr) (L : List En) : Prop where
  ex : ∃ o es ep t, h.get? a = some o ∧ o.ExactSet ∧ o.data = .set es ep t ∧ (es.toList.map (·.2)).Perm (L.map (·.1)) ∧ es.size < scanBound ∧ t.fits es.size = true ∧ Ris t.place.toList ∧ (w.params.followText "set-order" = true ∨ t.led = true)
  nd : (L.map (·.2)).Nodup
  few : L.length < 64

/-! ### tuples: the table -/
def rowsN (w : World) (L : List En) : List (Int × Value) := L.map fun p => (nh w p.2, p.1)
/-- a tuple's key -/
def TupK (h : Heap) (p : En) : Prop := NestedIs h p.2 p.1 ∧ p.2.depth ≤ 8 ∧ (∃ ks, p.2 = .tup ks) ∧ ∃ b, p.1 = .ref b
structure SetN (w : World) (h : Heap) (a : Addr) (L : List En) (es : Array (Int × Value)) (ep : Nat) (t : SetTable) : Prop where
  ob : ∃ o, h.get? a = some o ∧ o.ExactSet ∧ o.data = .set es ep t
  rows : es.toList = rowsN w L
  tab : TabOk t (L.map fun p => nh w p.2)
  nd : (L.map (·.2)).Nodup
  tup : ∀ p ∈ L, TupK h p
  led : w.params.followText "set-order" = true ∨ t.led = true
  room : L.length * 5 < t.mask * 3
  few : L.length < 64
section
variable {h h' : Heap} {a : Addr} {L : List En} {es : Array (Int × Value)} {ep : Nat} {t : SetTable}
theorem rowsN_size (e : es.toList = rowsN w L) : es.size = L.length := by
  have q := congrArg List.length e
  rwa [Array.length_toList, rowsN, List.length_map] at q
theorem fits_of (hs : t.place.size = es.size) (hd : t.dummies = #[]) (hm : es.size ≤ t.mask) : t.fits es.size = true := by
  unfold SetTable.fits SetTable.fill
  rw [hd, Bool.and_eq_true, beq_iff_eq, decide_eq_true_eq]
  exact ⟨hs, by simpa [hs] using hm⟩
theorem SetN.fits (R : SetN w h a L es ep t) : t.fits es.size = true := by
  have h1 := R.tab.sz
  have h2 := rowsN_size R.rows
  have h3 := R.room
  rw [List.length_map] at h1
  exact fits_of (by omega) R.tab.dm (by omega)
theorem SetN.entry (R : SetN w h a L es ep t) {i : Nat} {p : En} (e : L[i]? = some p) : es[i]? = some (nh w p.2, p.1) := by
  rw [← Array.getElem?_toList, R.rows, rowsN, List.getElem?_map, e] <;> rfl
theorem SetN.odd (R : SetN w h a L es ep t) : ¬ t.gaveWay = true := by
  unfold SetTable.gaveWay
  rw [mask_odd R.tab.mok]
  decide
theorem SetN.e (R : SetN w h a L es ep t) : SetE w h a L where
  ex := by
    obtain ⟨o, ho, hx, hd⟩ := R.ob
    refine ⟨o, es, ep, t, ho, hx, hd, ?_, ?_, R.fits, R.tab.ris, R.led⟩
    · rw [R.rows, rowsN, List.map_map]
      exact List.Perm.refl _
    · have h2 := rowsN_size R.rows
      have h3 := R.few
      unfold scanBound
      omega
  nd := R.nd
  few := R.few
theorem TupK.keep {p : En} (x : TupK h p) (hk : ∀ b o, h.get? b = some o → h'.get? b = some o) : TupK h' p := ⟨x.1.at (fun b o _ _ e _ => hk b o e), x.2⟩
theorem TupK.same {p : En} {o : Obj} (x : TupK h p) (ho : h.get? a = some o) (hd : o.data = .set es ep t) (hs : Heap.SameBut a h h') : TupK h' p := ⟨x.1.at (fun b ob vs n e ed => by
  refine (hs.2 b fun z => ?_).trans e
  subst z
  rw [ho] at e
  cases e
  rw [hd] at ed
  cases ed), x.2⟩
theorem SetN.keep (R : SetN w h a L es ep t) (ha : ∀ o, h.get? a = some o → h'.get? a = some o) (ht : ∀ p ∈ L, TupK h' p) : SetN w h' a L es ep t := by
  obtain ⟨o, ho, r⟩ := R.ob
  exact ⟨⟨o, ha o ho, r⟩, R.rows, R.tab, R.nd, ht, R.led, R.room, R.few⟩
end
end

/-! ### the search -/
section
variable {P : Program} {w : World} {A : Around} {E : Value → Shared → Prop} {s : Shared} {a : Addr} {L : List En} {es : Array (Int × Value)} {ep : Nat} {t : SetTable}
theorem seen_key {p : En} {Q : Bool → Shared → Prop} (hp : TupK s.heap p) {ys : List Value} (hy : ∀ y ∈ ys, ∃ q : En, y = q.1 ∧ TupK s.heap q) (h : Q false s) : wpAny (model P w) A (searchCouldBeSeen p.1 ys) Q E s := by
  obtain ⟨p1, p2⟩ := p
  obtain ⟨hk, hd, hks, b, rfl⟩ := hp
  unfold searchCouldBeSeen
  refine wpAny_bind ?_
  refine wpAny_forIn_list _ (fun rest r s' => r.1 = none ∧ s' = s ∧ ∀ y ∈ rest, y ∈ ys) _ ?_ ?_ _ _ ⟨rfl, rfl, fun y z => z⟩
  · rintro v rest r s' ⟨hr, rfl, hin⟩
    obtain ⟨⟨q1, q2⟩, rfl, hk2, hd2, hks2, c, rfl⟩ := hy v (hin v List.mem_cons_self)
    have more : ∀ y ∈ rest, y ∈ ys := fun u z => hin u (List.mem_cons_of_mem _ z)
    dsimp only
    by_cases hv : (b == c || (carriedByValue (.ref b) && carriedByValue (.ref c))) = true
    · exact wp_if_pos hv (wpAny_pure ⟨rfl, rfl, more⟩)
    · refine wp_if_neg hv (wpAny_bind (quiet_key p2 _ 8 _ hk hd A E _ ?_))
      simp only [Bool.not_true, Bool.false_eq_true, if_false]
      refine wpAny_bind (quiet_key q2 _ 8 _ hk2 hd2 A E _ ?_)
      simp only [Bool.not_true, Bool.false_eq_true, if_false]
      refine wpAny_bind (class_key p2 _ 8 _ _ _ hk hd ?_)
      simp only [Bool.false_eq_true, if_false]
      refine wpAny_bind (class_key q2 _ 8 _ _ _ hk2 hd2 ?_)
      simp only [Bool.false_eq_true, if_false]
      exact wpAny_pure ⟨rfl, rfl, more⟩
  · rintro ⟨r1, r2⟩ s' ⟨hr, rfl, _⟩
    simp only at hr
    subst hr
    exact wpAny_pure h
/-- a way's first state -/
abbrev way0 (m : Nat) (h : Int) : SetTable.Probe := runAt m (SetTable.bits h % (m + 1)) (SetTable.bits h)
theorem nth_plain (m : Nat) : ∀ (n : Nat) (p : SetTable.Probe), p.dummy = none → (nth m p n).dummy = none
  | 0, _, h => h
  | n + 1, p, h => nth_plain m n (adv m p) (by
    unfold adv
    split <;> exact h)
theorem way_from (m : Nat) (h : Int) (c q : Nat) : (nth m (nth m (way0 m h) c) q).j = way m h (c + q) := by
  rw [← nth_add]
/-- from the c-th step of the way on -/
theorem find_from (R : SetN w s.heap a L es ep t) {v : Value} {k : NestedKey} (hx : TupK s.heap (v, k)) (hu : A.units + 8 < cLine) {K : Nat} (hKf : K < 10 * SetTable.turns t.mask)
    (hK : way t.mask (nh w k) K ∉ t.place.toList) (hKb : ∀ c, c < K → way t.mask (nh w k) c ∈ t.place.toList) {Q : SetFound → Shared → Prop}
    (hin : k ∈ L.map (·.2) → Q (.there none) s) (hout : k ∉ L.map (·.2) → Q (.free (way t.mask (nh w k) K) false) s) :
    ∀ (f c : Nat) (stand : Option SetTable.Probe), stand.getD (t.probeStart (nh w k)) = nth t.mask (way0 t.mask (nh w k)) c → c ≤ K → K - c < f →
      (∀ (i : Nat) p, L[i]? = some p → p.2 = k → ∃ c', c ≤ c' ∧ c' < K ∧ t.place.toList[i]? = some (way t.mask (nh w k) c')) →
      wpAny (model P w) A (setSearchFrom a v (nh w k) true f stand) Q E s
  | 0, c, stand, _, _, hf, _ => absurd hf (Nat.not_lt_zero _)
  | f + 1, c, stand, hst, hc, hf, hre => by
    obtain ⟨o, ho, hex, hd⟩ := R.ob
    have ea : c + (K - c) = K := by omega
    rw [setSearchFrom_succ]
    refine wpAny_bind (wpAny_setState_of ho hd R.fits ?_)
    dsimp only
    refine wp_if_neg R.odd ?_
    try refine wpAny_bind (wpAny_pure ?_)
    have hash_at : ∀ (i : Nat) p, L[i]? = some p → ((fun i => (es[i]?.map (·.1)).getD 0) i : Int) = nh w p.2 := fun i p hp => by
      show (es[i]?.map (·.1)).getD 0 = _
      rw [R.entry hp] <;> rfl
    have spec := go_spec t R.tab.ris R.tab.dm (fun i => (es[i]?.map (·.1)).getD 0) (nh w k) (10 * SetTable.turns t.mask) (K - c) (nth t.mask (way0 t.mask (nh w k)) c) (nth_plain _ c _ rfl) (by omega)
      (fun q hq => by rw [way_from]; exact hKb (c + q) (by omega)) (by rw [way_from, ea]; exact hK)
    rcases spec with ⟨q, i, hq, hi, hh, hno, hpr⟩ | ⟨hno, hpr⟩
    · have hpr' : t.probe (fun i => (es[i]?.map (·.1)).getD 0) (nh w k) (stand.getD (t.probeStart (nh w k))) = some (.candidate (way t.mask (nh w k) (c + q)) i (nth t.mask (way0 t.mask (nh w k)) (c + (q + 1)))) := by
        rw [hst, ← way_from, nth_add t.mask c _ (q + 1)]
        exact hpr
      rw [hpr']
      dsimp only
      rw [way_from] at hi
      have hil : i < L.length := by
        have h1 : i < t.place.toList.length := (List.getElem?_eq_some_iff.mp hi).1
        have h2 := R.tab.sz
        rw [List.length_map] at h2
        rw [Array.length_toList] at h1
        omega
      obtain ⟨p, hp⟩ : ∃ p, L[i]? = some p := ⟨_, List.getElem?_eq_getElem hil⟩
      have hmem : p ∈ L := List.mem_of_getElem? hp
      have hpt := R.tup p hmem
      have hsl : t.slot (way t.mask (nh w k) (c + q)) = .live i := slot_live R.tab.ris hi
      have after : wpAny (model P w) A (searchRest a v (nh w k) true f es t (way t.mask (nh w k) (c + q)) i (nth t.mask (way0 t.mask (nh w k)) (c + (q + 1)))) Q E s := by
        unfold searchRest
        rw [R.entry hp]
        dsimp only
        have hmin : A.units + min p.2.depth k.depth < cLine := by
          have := hpt.2.1
          omega
        refine wpAny_bind (wpAny_holding (eqAt_key p.2 k A s p.1 v hpt.1 hx.1 hmin _ _ _ _ ?_))
        refine wpAny_bind (wpAny_setState_of ho hd R.fits ?_)
        dsimp only
        by_cases hkk : p.2 = k
        · refine wp_if_pos (by rw [hkk, NestedKey.beq_self] <;> rfl) ?_
          exact wpAny_pure (hin (List.mem_map.mpr ⟨p, hmem, hkk⟩))
        · have hb : NestedKey.beq p.2 k = false := by
            cases z : NestedKey.beq p.2 k with
            | false => rfl
            | true => exact absurd (NestedKey.eq_of_beq _ _ z) hkk
          refine wp_if_neg (by rw [hb]; decide) ?_
          try refine wpAny_bind (wpAny_pure ?_)
          rw [sameMem]
          dsimp only
          obtain ⟨b, hpb⟩ := hpt.2.2.2
          simp only [if_true, hsl, R.entry hp]
          rw [hpb]
          refine wpAny_bind (wpAny_isSame_ref_self (wpAny_bind (wpAny_pure ?_)))
          simp only [if_true]
          refine wp_if_neg (by rw [hb]; decide) ?_
          refine find_from R hx hu hKf hK hKb hin hout f (c + (q + 1)) _ rfl (by omega) (by omega) fun i0 p0 h0 hk0 => ?_
          obtain ⟨c', a1, a2, a3⟩ := hre i0 p0 h0 hk0
          refine ⟨c', ?_, a2, a3⟩
          have nlt : ¬ c' < c + q := fun z => by
            refine hno (c' - c) i0 (by omega) (by rw [way_from, show c + (c' - c) = c' by omega]; exact a3) ?_
            exact (hash_at i0 p0 h0).trans (congrArg (nh w) hk0)
          have nne : c' ≠ c + q := fun z => by
            rw [z] at a3
            have s0 := slot_live R.tab.ris a3
            rw [hsl] at s0
            injection s0 with s0
            rw [← s0, hp] at h0
            exact hkk ((congrArg Prod.snd (Option.some.inj h0)).trans hk0)
          omega
      by_cases hl : t.led = true
      · refine wp_if_neg (by simp [hl]) ?_
        try refine wpAny_bind (wpAny_pure ?_)
        exact after
      · refine wp_if_pos (by simp [hl]) ?_
        refine wpAny_bind (seen_key hx (fun y hy => ?_) ?_)
        · obtain ⟨e, he, ee⟩ := List.mem_map.mp hy
          have he2 : e ∈ es.toList := by
            have he1 : e ∈ es ∧ e.1 = nh w k := by simpa using he
            simpa using he1.1
          rw [R.rows] at he2
          obtain ⟨p2, hp2, e2⟩ := List.mem_map.mp he2
          exact ⟨p2, by rw [← ee, ← e2], R.tup p2 hp2⟩
        · refine wp_if_neg (by decide) ?_
          try refine wpAny_bind (wpAny_pure ?_)
          exact after
    · have hpr' : t.probe (fun i => (es[i]?.map (·.1)).getD 0) (nh w k) (stand.getD (t.probeStart (nh w k))) = some (.empty (way t.mask (nh w k) K) none) := by
        have e2 : way t.mask (nh w k) K = (nth t.mask (nth t.mask (way0 t.mask (nh w k)) c) (K - c)).j := by rw [way_from, ea]
        rw [hst, e2]
        exact hpr
      rw [hpr']
      dsimp only
      refine wpAny_pure (hout fun hm => ?_)
      obtain ⟨p0, h0, hk0⟩ := List.mem_map.mp hm
      obtain ⟨i0, hi0, e0⟩ := List.getElem_of_mem h0
      have h00 : L[i0]? = some p0 := by rw [List.getElem?_eq_getElem hi0, e0]
      obtain ⟨c', a1, a2, a3⟩ := hre i0 p0 h00 hk0
      refine hno (c' - c) i0 (by omega) (by rw [way_from, show c + (c' - c) = c' by omega]; exact a3) ?_
      exact (hash_at i0 p0 h00).trans (congrArg (nh w) hk0)
theorem find_at (R : SetN w s.heap a L es ep t) {v : Value} {k : NestedKey} (hx : TupK s.heap (v, k)) (hu : A.units + 8 < cLine) {Q : SetFound → Shared → Prop} (hin : k ∈ L.map (·.2) → Q (.there none) s)
    (hout : ∀ K, k ∉ L.map (·.2) → way t.mask (nh w k) K ∉ t.place.toList → (∀ c, c < K → way t.mask (nh w k) c ∈ t.place.toList) → Q (.free (way t.mask (nh w k) K) false) s) :
    wpAny (model P w) A (setSearch a v (nh w k) true) Q E s := by
  have hroom := R.room
  obtain ⟨K, hKf, hK, hKb⟩ := R.tab.first (by rw [List.length_map]; omega) (nh w k)
  have hbig : K < 100000 := by
    have : 10 * SetTable.turns t.mask ≤ 1420 := by
      unfold SetTable.turns
      rcases R.tab.mok with e | e | e <;> omega
    omega
  unfold setSearch
  refine find_from R hx hu hKf hK hKb hin (fun hn => hout K hn hK hKb) 100000 0 none rfl (Nat.zero_le _) (by omega) fun i p hp hk => ?_
  have hi : (L.map fun p => nh w p.2)[i]? = some (nh w k) := by rw [List.getElem?_map, hp, ← hk] <;> rfl
  have hil : i < t.place.toList.length := by
    have h1 : i < L.length := (List.getElem?_eq_some_iff.mp hp).1
    have h2 := R.tab.sz
    rw [List.length_map] at h2
    rw [Array.length_toList]
    omega
  obtain ⟨c, hc, e⟩ := R.tab.before hK hi (List.getElem?_eq_getElem hil)
  exact ⟨c, Nat.zero_le _, hc, by rw [List.getElem?_eq_getElem hil, e]⟩

/-! ### laid anew, added -/
theorem rows_order (L : List En) (es : Array (Int × Value)) (order : Array Nat) (hr : es.toList = rowsN w L) (hp : order.toList.Perm (List.range L.length)) :
    ∃ L2, (order.filterMap (es[·]?)).toList = rowsN w L2 ∧ L2.Perm L ∧ (L2.map fun p => nh w p.2) = order.toList.map fun i => (es.map (·.1)).getD i 0 := by
  have hsz := rowsN_size hr
  have ent : ∀ (i : Nat) (p : En), L[i]? = some p → es[i]? = some (nh w p.2, p.1) := fun i p h => by
    rw [← Array.getElem?_toList, hr, rowsN, List.getElem?_map, h] <;> rfl
  have key : ∀ l : List Nat, (∀ i ∈ l, i < L.length) → l.filterMap (fun i => es[i]?) = rowsN w (l.filterMap fun i => L[i]?) ∧ ((l.filterMap fun i => L[i]?).map fun p => nh w p.2) = l.map fun i => (es.map (·.1)).getD i 0 := by
    intro l
    induction l with
    | nil => exact fun _ => ⟨rfl, rfl⟩
    | cons i l ih =>
      intro hl
      have hi := List.getElem?_eq_getElem (hl i List.mem_cons_self)
      obtain ⟨e1, e3⟩ := ih fun j hj => hl j (List.mem_cons_of_mem _ hj)
      have e4 : (es.map (·.1)).getD i 0 = nh w (L[i]'(hl i List.mem_cons_self)).2 := by
        rw [Array.getD_eq_getD_getElem?, Array.getElem?_map, ent i _ hi] <;> rfl
      refine ⟨?_, ?_⟩
      · rw [List.filterMap_cons_some (ent i _ hi), List.filterMap_cons_some hi, e1] <;> rfl
      · rw [List.filterMap_cons_some hi, List.map_cons, List.map_cons, e3, e4]
  obtain ⟨e1, e3⟩ := key order.toList fun i hi => List.mem_range.mp (hp.mem_iff.mp hi)
  refine ⟨order.toList.filterMap fun i => L[i]?, by rw [Array.toList_filterMap]; exact e1, ?_, e3⟩
  have all : ∀ n, n ≤ L.length → (List.range n).filterMap (fun i => L[i]?) = L.take n := by
    intro n
    induction n with
    | zero => exact fun _ => rfl
    | succ n ih =>
      intro hn
      rw [List.range_succ, List.filterMap_append, ih (Nat.le_of_lt hn), List.take_succ, List.getElem?_eq_getElem hn, List.filterMap_cons_some (List.getElem?_eq_getElem hn)] <;> rfl
  have h1 := hp.filterMap fun i => L[i]?
  rw [all L.length (Nat.le_refl _), List.take_length] at h1
  exact h1
theorem relay_key {o : Obj} (ho : s.heap.get? a = some o) (hex : o.ExactSet) (hd : o.data = .set es ep t) (hrows : es.toList = rowsN w L) (hsz : t.place.size = es.size) (hdm : t.dummies = #[]) (hfl : es.size ≤ t.mask)
    (nd : (L.map (·.2)).Nodup) (tup : ∀ p ∈ L, TupK s.heap p) (ld : w.params.followText "set-order" = true ∨ t.led = true) (few : L.length < 64) {wanted M : Nat}
    (hw : SetTable.sizeAbove wanted - 1 = M) (hM : MaskOk M) (hw2 : SetTable.sizeAbove wanted ≤ 128) (hn : L.length * 5 < M * 3) {Q : Unit → Shared → Prop}
    (hQ : ∀ h' L' es' ep' t', Heap.SameBut a s.heap h' → SetN w h' a L' es' ep' t' → L'.Perm L → Q () { s with heap := h' }) : wpAny (model P w) A (setRelay a wanted) Q E s := by
  have hsl := rowsN_size hrows
  obtain ⟨t', order, e, hp, T, em, el, ep', ed⟩ := relaid_ok t (hs := es.map (·.1)) (wanted := wanted) hw hM (by rw [Array.size_map, hsl]; omega)
  rw [Array.size_map, hsl] at hp
  obtain ⟨L2, r1, r2, r3⟩ := rows_order L es order hrows hp
  rw [← r3] at T
  have hs2 : (order.filterMap (es[·]?)).size = es.size := by rw [rowsN_size r1, r2.length_eq, hsl]
  rw [setRelay_eq]
  refine wpAny_bind (wpAny_setState_of ho hd (fits_of hsz hdm hfl) ?_)
  dsimp only
  refine wp_if_neg (by rw [sizeLine_eq]; omega) ?_
  try refine wpAny_bind (wpAny_pure ?_)
  rw [e]
  dsimp only
  refine wpAny_bind ?_
  refine wp_if_neg (by rw [hs2]; simp) ?_
  try refine wpAny_bind (wpAny_pure ?_)
  refine wpAny_pure ?_
  dsimp only
  refine wpAny_storeSet_of ho hd ?_ (by rw [hs2, hsl, sizeLine_eq]; omega)
  have sb : Heap.SameBut a s.heap (s.heap.update a (Obj.putSet (order.filterMap (es[·]?)) t')) := Heap.SameBut.update ..
  exact hQ _ L2 _ (ep + 1) t' sb ⟨⟨_, store_at ho hd, ⟨hex.1, hex.2.1, hex.2.2⟩, rfl⟩, r1, T, (r2.map (·.2)).nodup_iff.mpr nd, fun p hpm => (tup p (r2.mem_iff.mp hpm)).same ho hd sb, by rw [el]; exact ld, by rw [r2.length_eq, em]; exact hn, by rw [r2.length_eq]; exact few⟩ r2
end
section
variable {P : Program} {w : World} {A : Around} {E : Value → Shared → Prop} {s : Shared} {a : Addr} {L : List En} {es : Array (Int × Value)} {ep : Nat} {t : SetTable}
theorem add_key (R : SetN w s.heap a L es ep t) {v : Value} {k : NestedKey} (hx : TupK s.heap (v, k)) (hu : A.units + 8 < cLine) (hfew : L.length + 1 < 64) {Q : Bool → Shared → Prop}
    (hQ : ∀ b h' L' es' ep' t', Heap.SameBut a s.heap h' → SetN w h' a L' es' ep' t' → (k ∈ L.map (·.2) → L' = L) → (k ∉ L.map (·.2) → L'.Perm ((v, k) :: L)) → Q b { s with heap := h' }) :
    wpAny (model P w) A (setAddHashed a v (nh w k)) Q E s := by
  obtain ⟨o, ho, hex, hd⟩ := R.ob
  have hsl := rowsN_size R.rows
  have hroom := R.room
  have href : ∃ b, v = .ref b := hx.2.2.2
  unfold setAddHashed
  refine wpAny_holding ?_
  rw [show (100000 : Nat) = 99999 + 1 from rfl, setAddHashedIn_succ]
  refine wpAny_bind (wpAny_setState_of ho hd R.fits ?_)
  dsimp only
  refine wp_if_neg (by obtain ⟨b, e⟩ := href; simp [byScan, Value.scannable, e]) ?_
  try refine wpAny_bind (wpAny_pure ?_)
  refine wpAny_bind (find_at R hx hu (fun hm => ?_) fun K hm hK hb => ?_)
  · dsimp only
    exact wpAny_pure (hQ false s.heap L es ep t (Heap.SameBut.refl a s.heap) R (fun _ => rfl) fun z => absurd hm z)
  · dsimp only
    refine wpAny_bind (wpAny_setState_of ho hd R.fits ?_)
    dsimp only
    obtain ⟨q1, q2, q3, q4, q5, q6, q7, q8, q9⟩ := R.tab.put hK hb
    generalize t.put (way t.mask (nh w k) K) = pt at q1 q3 q4 q5 q6 q7 q8 q9 ⊢
    obtain ⟨t1, p⟩ := pt
    dsimp only at q1 q3 q4 q5 q6 q7 q8 q9 ⊢
    rw [← q1] at q2 q3
    -- the rows
    have hin : (SetTable.insertAt es p (nh w k, v)).toList = rowsN w (L.take p ++ (v, k) :: L.drop p) := by
      rw [SetTable.toList_insertAt, R.rows]
      unfold rowsN
      rw [List.map_append, List.map_cons, List.map_take, List.map_drop]
    have pm := put_perm L p (v, k)
    have hlen : (L.take p ++ (v, k) :: L.drop p).length = L.length + 1 := pm.length_eq
    have hhs : (L.take p ++ (v, k) :: L.drop p).map (fun p => nh w p.2) = (L.map fun p => nh w p.2).take p ++ nh w k :: (L.map fun p => nh w p.2).drop p := by
      rw [List.map_append, List.map_cons, List.map_take, List.map_drop]
    rw [← hhs] at q3
    have nd1 : ((L.take p ++ (v, k) :: L.drop p).map (·.2)).Nodup := by
      refine (pm.map (·.2)).nodup_iff.mpr ?_
      rw [List.map_cons]
      exact List.nodup_cons.mpr ⟨hm, R.nd⟩
    have hes := (rowsN_size hin).trans hlen
    generalize SetTable.insertAt es p (nh w k, v) = es1 at hin hes ⊢
    generalize L.take p ++ (v, k) :: L.drop p = L1 at pm hlen q3 nd1 hin
    -- whatever the answer about the hash
    have go : ∀ t2 : SetTable, (t2 = t1 ∨ t2 = { t1 with plain := false }) → wpAny (model P w) A (do
        storeSet a es1 t2
        if (!false && t2.tooFull) = true then do
            setRelay a (SetTable.grown (es.size + 1))
            return true
          else return true) Q E s := by
      intro t2 e2
      have m2 : t2.mask = t1.mask := by rcases e2 with e | e <;> rw [e]
      have f2 : t2.fill = t1.fill := by rcases e2 with e | e <;> rw [e] <;> rfl
      have p2 : t2.place = t1.place := by rcases e2 with e | e <;> rw [e]
      have d2 : t2.dummies = t1.dummies := by rcases e2 with e | e <;> rw [e]
      have l2 : t2.led = t1.led := by rcases e2 with e | e <;> rw [e]
      have T2 : TabOk t2 (L1.map fun p => nh w p.2) := ⟨by rw [p2]; exact q3.ris, by rw [d2]; exact q3.dm, by rw [p2]; exact q3.sz, by rw [m2]; exact q3.mok, by rw [p2, m2]; exact q3.bd, by rw [p2, m2]; exact q3.reach⟩
      refine wpAny_bind (wpAny_storeSet_of ho hd ?_ (by rw [hes, sizeLine_eq]; omega))
      have sb : Heap.SameBut a s.heap (s.heap.update a (Obj.putSet es1 t2)) := Heap.SameBut.update ..
      have ho1 := store_at (es' := es1) (t' := t2) ho hd
      generalize s.heap.update a (Obj.putSet es1 t2) = h1 at sb ho1 ⊢
      have tup1 : ∀ p ∈ L1, TupK h1 p := fun p hp => by
        rcases List.mem_cons.mp (pm.mem_iff.mp hp) with e | hp
        · rw [e]
          exact hx.same ho hd sb
        · exact (R.tup p hp).same ho hd sb
      have ld1 : w.params.followText "set-order" = true ∨ t2.led = true := by
        rw [l2, q5]
        exact R.led
      have full : t2.tooFull = decide ((L.length + 1) * 5 ≥ t2.mask * 3) := by
        unfold SetTable.tooFull
        rw [f2, q9, List.length_map]
      by_cases hf : t2.tooFull = true
      · refine wp_if_pos (by simp [hf]) ?_
        refine wpAny_bind ?_
        rw [full, decide_eq_true_eq, m2] at hf
        rw [hsl]
        have hsz1 : t2.place.size = es1.size := by
          have h := T2.sz
          rw [List.length_map, hlen] at h
          rw [h, hes]
        have two : (t.mask = 7 ∧ L.length = 4) ∨ (t.mask = 31 ∧ L.length = 18) := by
          rcases R.tab.mok with e | e | e
          · left; rw [q4, e] at hf; rw [e] at hroom; exact ⟨e, by omega⟩
          · right; rw [q4, e] at hf; rw [e] at hroom; exact ⟨e, by omega⟩
          · exfalso; rw [q4, e] at hf; omega
        have fin : ∀ M, SetTable.sizeAbove (SetTable.grown (L.length + 1)) - 1 = M → MaskOk M → SetTable.sizeAbove (SetTable.grown (L.length + 1)) ≤ 128 → (L.length + 1) * 5 < M * 3 →
            wpAny (model P w) A (setRelay a (SetTable.grown (L.length + 1))) (fun _ s' => wpAny (model P w) A (pure true) Q E s') E { s with heap := h1 } := fun M z1 z2 z3 z4 => by
          refine relay_key (s := { s with heap := h1 }) ho1 ⟨hex.1, hex.2.1, hex.2.2⟩ rfl hin hsz1 T2.dm (by rw [hes, m2, q4]; rcases two with ⟨e, e2⟩ | ⟨e, e2⟩ <;> omega) nd1 tup1 ld1 (by rw [hlen]; exact hfew) z1 z2 z3 (by rw [hlen]; exact z4) ?_
          intro h2 L2 es2 ep2 t2 sb2 R2 pm2
          exact wpAny_pure (hQ true h2 L2 es2 ep2 t2 (sb.trans sb2) R2 (fun z => absurd z hm) fun _ => pm2.trans pm)
        rcases two with ⟨_, e2⟩ | ⟨_, e2⟩
        · exact fin 31 (by rw [e2, size_20]) (.inr (.inl rfl)) (by rw [e2, size_20]; decide) (by omega)
        · exact fin 127 (by rw [e2, size_76]) (.inr (.inr rfl)) (by rw [e2, size_76]; decide) (by omega)
      · refine wp_if_neg (by simp [hf]) ?_
        rw [full, decide_eq_true_eq] at hf
        refine wpAny_pure (hQ true h1 L1 es1 (ep + 1) t2 sb ⟨⟨_, ho1, ⟨hex.1, hex.2.1, hex.2.2⟩, rfl⟩, hin, T2, nd1, tup1, ld1, by rw [hlen]; omega, by rw [hlen]; exact hfew⟩ (fun z => absurd z hm) fun _ => pm)
    by_cases hpl : t1.plain = true
    · rw [hpl]
      simp only [if_true]
      refine wpAny_bind (byval_key k v 8 _ _ _ hx.1 hx.2.1 fun r => ?_)
      cases r
      · simp only [Bool.false_eq_true, if_false]
        exact go _ (.inr rfl)
      · simp only [if_true]
        exact go _ (.inl rfl)
    · have hpf : t1.plain = false := by simpa using hpl
      rw [hpf]
      simp only [Bool.false_eq_true, if_false]
      refine wpAny_bind (wpAny_pure ?_)
      simp only [if_true]
      exact go _ (.inl rfl)
end

/-! ### texts: by scan -/
def TxtK (_ : Heap) (p : En) : Prop := ∃ x tk, p = (.str x tk, .text x)
structure SetX (w : World) (h : Heap) (a : Addr) (L : List En) : Prop where
  ex : ∃ o es ep t, h.get? a = some o ∧ o.ExactSet ∧ o.data = .set es ep t ∧ es.toList.Perm (rowsN w L) ∧ t.fits es.size = true ∧ Ris t.place.toList ∧ (w.params.followText "set-order" = true ∨ t.led = true)
  nd : (L.map (·.2)).Nodup
  txt : ∀ p ∈ L, ∃ x tk, p = (.str x tk, .text x)
  few : L.length < 64
section
variable {P : Program} {w : World} {A : Around} {E : Value → Shared → Prop} {s : Shared} {h h' : Heap} {a : Addr} {L : List En}
theorem rowsN_len (L : List En) : (rowsN w L).length = L.length := by rw [rowsN, List.length_map]
theorem SetX.keep (R : SetX w h a L) (ha : ∀ o, h.get? a = some o → h'.get? a = some o) : SetX w h' a L := by
  obtain ⟨o, es, ep, t, ho, r⟩ := R.ex
  exact ⟨⟨o, es, ep, t, ha o ho, r⟩, R.nd, R.txt, R.few⟩
theorem perm_size {es : Array (Int × Value)} (pm : es.toList.Perm (rowsN w L)) : es.size = L.length := by
  rw [← Array.length_toList, pm.length_eq, rowsN_len]
theorem SetX.e (R : SetX w h a L) : SetE w h a L where
  ex := by
    obtain ⟨o, es, ep, t, ho, hx, hd, pm, hf, hr, hl⟩ := R.ex
    refine ⟨o, es, ep, t, ho, hx, hd, ?_, ?_, hf, hr, hl⟩
    · have q := pm.map (·.2)
      rw [rowsN, List.map_map] at q
      exact q
    · have := R.few
      rw [perm_size pm]
      unfold scanBound
      omega
  nd := R.nd
  few := R.few
theorem txt_elems {es : Array (Int × Value)} (pm : es.toList.Perm (rowsN w L)) (ht : ∀ p ∈ L, ∃ x tk, p = (.str x tk, .text x)) : ElemsOf (strKind P w) es.toList := fun e he => by
  obtain ⟨p, hp, rfl⟩ := List.mem_map.mp (pm.mem_iff.mp he)
  obtain ⟨x, tk, rfl⟩ := ht p hp
  exact ⟨⟨x, PySem.Froz.is_str x tk, rfl⟩, rfl⟩
theorem txt_tail {g : Bool → Sem Unit} (hg : ∀ (b : Bool) (s₁ : Shared) (Q' : Unit → Shared → Prop), Q' () s₁ → wpAny (model P w) A (g b) Q' E s₁)
    {o : Obj} {es : Array (Int × Value)} {ep : Nat} {t : SetTable} (ho : s.heap.get? a = some o) (hex : o.ExactSet) (hd : o.data = .set es ep t)
    {es1 : Array (Int × Value)} {t2 : SetTable} (pm1 : es1.toList.Perm (rowsN w L)) (nd : (L.map (·.2)).Nodup) (txt : ∀ p ∈ L, ∃ x tk, p = (.str x tk, .text x)) (few : L.length < 64)
    (hf2 : t2.fits es1.size = true) (hr : Ris t2.place.toList) (hl : w.params.followText "set-order" = true ∨ t2.led = true) {wasDummy : Bool} {R : Option Bool → Shared → Prop}
    (hR : ∀ h', Heap.SameBut a s.heap h' → SetX w h' a L → R (some true) { s with heap := h' }) :
    wpAny (model P w) A (do
        storeSet a es1 t2
        if (!wasDummy && t2.tooFull) = true then do
            g (relayAll t2 es1 (SetTable.grown es1.size)).2.2
            storeSet a (relayAll t2 es1 (SetTable.grown es1.size)).1 (relayAll t2 es1 (SetTable.grown es1.size)).2.1
            pure (some true)
          else pure (some true)) R E s := by
  have hz1 := perm_size pm1
  refine wpAny_bind (wpAny_storeSet_of ho hd ?_ (by rw [hz1, sizeLine_eq]; omega))
  have ho1 := store_at (es' := es1) (t' := t2) ho hd
  have sb1 := Heap.SameBut.update s.heap a (Obj.putSet es1 t2)
  split
  · have pm := relayAll_perm t2 es1 (SetTable.grown es1.size)
    have hf3 := relayAll_fits t2 es1 (SetTable.grown es1.size)
    have hr3 := relayAll_ris t2 es1 (SetTable.grown es1.size)
    have hl3 := relayAll_led t2 es1 (SetTable.grown es1.size)
    generalize relayAll t2 es1 (SetTable.grown es1.size) = Z at pm hf3 hr3 hl3 ⊢
    obtain ⟨es2, t3, gave⟩ := Z
    dsimp only at pm hf3 hr3 hl3 ⊢
    refine wpAny_bind (hg _ _ _ ?_)
    refine wpAny_bind (wpAny_storeSet_of ho1 rfl ?_ (by rw [perm_size (pm.trans pm1), sizeLine_eq]; omega))
    have ho2 := store_at (es' := es2) (t' := t3) ho1 rfl
    exact wpAny_pure (hR _ (sb1.trans (Heap.SameBut.update _ a _)) ⟨⟨_, es2, _, t3, ho2, hex, rfl, pm.trans pm1, hf3, hr3, hl.imp id fun z => by rw [hl3]; exact z⟩, nd, txt, few⟩)
  · exact wpAny_pure (hR _ sb1 ⟨⟨_, es1, _, t2, ho1, hex, rfl, pm1, hf2, hr, hl⟩, nd, txt, few⟩)
theorem add_txt (R : SetX w s.heap a L) {x : Str} {tk : Tok} (hfew : L.length + 1 < 64) {Q : Bool → Shared → Prop}
    (hQ : ∀ b h' L', Heap.SameBut a s.heap h' → SetX w h' a L' → (NestedKey.text x ∈ L.map (·.2) → L' = L) → (NestedKey.text x ∉ L.map (·.2) → L'.Perm ((.str x tk, .text x) :: L)) → Q b { s with heap := h' }) :
    wpAny (model P w) A (setAddHashed a (.str x tk) (nh w (.text x))) Q E s := by
  obtain ⟨o, es, ep, t, ho, hex, hd, pe, hf, hr, hl⟩ := R.ex
  have hsz := perm_size pe
  have hb : es.size < scanBound := by rw [hsz]; unfold scanBound; omega
  have hkey : (strKind P w).is x (.str x tk) = true := PySem.Froz.is_str x tk
  have hel : ElemsOf (strKind P w) es.toList := txt_elems pe R.txt
  have hmem : ∀ e ∈ es.toList, (strKind P w).is x e.2 = true → NestedKey.text x ∈ L.map (·.2) := fun e he q => by
    obtain ⟨p, hp, rfl⟩ := List.mem_map.mp (pe.mem_iff.mp he)
    obtain ⟨y, u, rfl⟩ := R.txt p hp
    have e : x = y := (strKind P w).inj (.str y u) x y q (PySem.Froz.is_str y u)
    rw [e]
    exact List.mem_map.mpr ⟨_, hp, rfl⟩
  unfold setAddHashed setAddHashedIn
  refine wpAny_holding (wpAny_bind (wpAny_setState_of ho hd hf ?_))
  dsimp only
  rw [byScan_of rfl hb hel]
  simp only [↓reduceIte]
  unfold setAddByScan
  refine wpAny_bind ?_
  refine wpAny_bind (wpAny_rule ?_)
  refine wpAny_bind (wpAny_setScan_of (knd := strKind P w) (k := x) hkey ho hd hf hel ?_)
  cases hfi : List.findIdx? (fun e => (strKind P w).is x e.2) es.toList with
  | some j =>
    dsimp only
    obtain ⟨hj, pj, _⟩ := List.findIdx?_eq_some_iff_getElem.mp hfi
    have hm := hmem _ (List.getElem_mem hj) pj
    exact wpAny_pure (wpAny_pure (hQ false s.heap L (Heap.SameBut.refl a s.heap) R (fun _ => rfl) fun z => absurd hm z))
  | none =>
    dsimp only
    have hno : NestedKey.text x ∉ L.map (·.2) := fun z => by
      obtain ⟨p, hp, e⟩ := List.mem_map.mp z
      obtain ⟨y, u, rfl⟩ := R.txt p hp
      have e' : NestedKey.text y = NestedKey.text x := e
      injection e' with e'
      subst e'
      have c := List.findIdx?_eq_none_iff.mp hfi (nh w (.text y), .str y u) (pe.mem_iff.mpr (List.mem_map.mpr ⟨_, hp, rfl⟩))
      rw [PySem.Froz.is_str y u] at c
      cases c
    have hgw : ∀ (b : Bool) {s₁ : Shared} {Q' : Unit → Shared → Prop}, Q' () s₁ → wpAny (model P w) A (match b with | true => rule "set.scan.the-table-gave-way" | false => pure ()) Q' E s₁ :=
      fun b s₁ Q' q => by cases b <;> first | exact wpAny_pure q | exact wpAny_rule q
    have pm := layNew_perm t es (nh w (.text x)) (.str x tk)
    have hf1 := layNew_fits t es (nh w (.text x)) (.str x tk)
    have hr1 := layNew_ris t es (nh w (.text x)) (.str x tk) hr
    have hl1 := layNew_led t es (nh w (.text x)) (.str x tk)
    generalize layNew t es (nh w (.text x)) (.str x tk) = Z at pm hf1 hr1 hl1 ⊢
    obtain ⟨es1, t1, wasDummy, gave⟩ := Z
    dsimp only at pm hf1 hr1 hl1 ⊢
    rw [Array.toList_push] at pm
    have pc : es1.toList.Perm (rowsN w ((.str x tk, .text x) :: L)) := (pm.trans (List.perm_append_singleton _ _)).trans (pe.cons _)
    have nd1 : (((.str x tk, .text x) :: L : List En).map (·.2)).Nodup := List.nodup_cons.mpr ⟨hno, R.nd⟩
    have txt1 : ∀ p ∈ ((.str x tk, .text x) :: L : List En), ∃ x tk, p = (.str x tk, .text x) := fun p hp => by
      rcases List.mem_cons.mp hp with e | hp
      · exact ⟨x, tk, e⟩
      · exact R.txt p hp
    have hled : w.params.followText "set-order" = true ∨ t1.led = true := hl.imp id fun z => by rw [hl1]; exact z
    have fin : ∀ h', Heap.SameBut a s.heap h' → SetX w h' a ((.str x tk, .text x) :: L) → Q true { s with heap := h' } := fun h' sb r => hQ true h' _ sb r (fun z => absurd z hno) fun _ => List.Perm.refl _
    refine wpAny_bind (hgw _ ?_)
    split
    · refine wpAny_bind ?_
      rw [hashByValue_scannable 8 (x := Value.str x tk) rfl]
      refine wpAny_pure ?_
      refine txt_tail (L := (.str x tk, .text x) :: L) ?_ ho hex hd pc nd1 txt1 hfew ?_ ?_ ?_ ?_
      · intro b s₁ Q' q; cases b <;> first | exact wpAny_pure q | exact wpAny_rule q
      · first | (split <;> first | exact hf1 | exact SetTable.fits_plain_off hf1) | exact hf1
      · first | (split <;> exact hr1) | exact hr1
      · first | (split <;> exact hled) | exact hled
      · intro h' sb r; dsimp only; exact wpAny_pure (fin h' sb r)
    · refine wpAny_bind (wpAny_pure ?_)
      simp only [↓reduceIte]
      refine txt_tail (L := (.str x tk, .text x) :: L) ?_ ho hex hd pc nd1 txt1 hfew hf1 hr1 hled ?_
      · intro b s₁ Q' q; cases b <;> first | exact wpAny_pure q | exact wpAny_rule q
      · intro h' sb r; dsimp only; exact wpAny_pure (fin h' sb r)
end

/-! ### both -/
abbrev freshSet (w : World) : Obj := { cls := .type "set", dict := none, data := .set #[] 0 (.fresh 0 0 (!w.params.followText "set-order")) }
theorem fresh_led (w : World) : w.params.followText "set-order" = true ∨ (SetTable.fresh 0 0 (!w.params.followText "set-order")).led = true := by
  show _ ∨ (!w.params.followText "set-order") = true
  cases w.params.followText "set-order"
  · exact .inr rfl
  · exact .inl rfl
structure Adder (P : Program) (w : World) (J : Heap → Addr → List En → Prop) (Ok : Heap → En → Prop) : Prop where
  keep : ∀ {h h' : Heap} {a : Addr} {L : List En}, J h a L → (∀ o, h.get? a = some o → h'.get? a = some o) → (∀ p ∈ L, Ok h' p) → J h' a L
  ok : ∀ {h h' : Heap} {p : En}, Ok h p → (∀ b o, h.get? b = some o → h'.get? b = some o) → Ok h' p
  key : ∀ {h : Heap} {p : En}, Ok h p → NestedIs h p.2 p.1 ∧ p.2.depth ≤ 8
  new : ∀ {h : Heap} {a : Addr}, h.get? a = some (freshSet w) → J h a []
  add : ∀ {A : Around} {E : Value → Shared → Prop} {s : Shared} {a : Addr} {L : List En} {p : En} {Q : Bool → Shared → Prop}, J s.heap a L → Ok s.heap p → A.units + 8 < cLine → L.length + 1 < 64 →
    (∀ b h' L', Heap.SameBut a s.heap h' → J h' a L' → (p.2 ∈ L.map (·.2) → L' = L) → (p.2 ∉ L.map (·.2) → L'.Perm (p :: L)) → Q b { s with heap := h' }) → wpAny (model P w) A (setAddHashed a p.1 (nh w p.2)) Q E s
  fin : ∀ {h : Heap} {a : Addr} {L : List En}, J h a L → SetE w h a L
theorem adder_key (P : Program) (w : World) : Adder P w (fun h a L => ∃ es ep t, SetN w h a L es ep t) TupK where
  keep := fun ⟨es, ep, t, R⟩ ha ht => ⟨es, ep, t, R.keep ha ht⟩
  ok := fun x hk => x.keep hk
  key := fun x => ⟨x.1, x.2.1⟩
  new := fun ho => ⟨#[], 0, _, ⟨_, ho, ⟨rfl, rfl, rfl⟩, rfl⟩, rfl, ⟨List.Pairwise.nil, rfl, rfl, .inl rfl, fun x hx => (by cases hx), fun i h j hi => (by simp at hi)⟩, List.nodup_nil, fun p hp => (by cases hp), fresh_led w, by show 0 * 5 < 7 * 3; decide, by decide⟩
  add := fun {A E s a L p Q} ⟨es, ep, t, R⟩ hx hu hf hQ => add_key R (v := p.1) (k := p.2) hx hu hf fun b h' L' es' ep' t' sb R' c1 c2 => hQ b h' L' sb ⟨es', ep', t', R'⟩ c1 c2
  fin := fun ⟨_, _, _, R⟩ => R.e
theorem adder_txt (P : Program) (w : World) : Adder P w (fun h a L => SetX w h a L) TxtK where
  keep := fun R ha _ => R.keep ha
  ok := fun x _ => x
  key := fun {h p} x => by
    obtain ⟨y, tk, rfl⟩ := x
    exact ⟨.text y tk, by simp [NestedKey.depth]⟩
  new := fun ho => ⟨⟨_, #[], 0, _, ho, ⟨rfl, rfl, rfl⟩, rfl, List.Perm.refl _, rfl, List.Pairwise.nil, fresh_led w⟩, List.nodup_nil, fun p hp => (by cases hp), by decide⟩
  add := fun {A E s a L p Q} R hx hu hf hQ => by
    obtain ⟨y, tk, rfl⟩ := hx
    exact add_txt R hf hQ
  fin := fun R => R.e
end Sh

set_option maxHeartbeats 4000000
/-! Layer G: set(list), set(tuple), sorted(set(..)), len(set(..)). -/
namespace Sh
open PySem PySem.Spec PyProof.Rows L2

/-- what the set has got of the first i items -/
structure GotN (ks : List En) (i : Nat) (L : List En) : Prop where
  sub : ∀ p ∈ L, p ∈ ks.take i
  all : ∀ p ∈ ks.take i, p.2 ∈ L.map (·.2)
  len : L.length ≤ i
theorem GotN.next {ks L L' : List En} {i : Nat} {x : En} (g : GotN ks i L) (h : ks[i]? = some x) (c1 : x.2 ∈ L.map (·.2) → L' = L) (c2 : x.2 ∉ L.map (·.2) → L'.Perm (x :: L)) : GotN ks (i + 1) L' := by
  have ht : ks.take (i + 1) = ks.take i ++ [x] := take_next h
  rcases Classical.em (x.2 ∈ L.map (·.2)) with c | c
  · rw [c1 c]
    refine ⟨fun p hp => by rw [ht]; exact List.mem_append_left _ (g.sub p hp), fun p hp => ?_, Nat.le_succ_of_le g.len⟩
    rw [ht] at hp
    rcases List.mem_append.mp hp with z | z
    · exact g.all p z
    · rw [List.mem_singleton.mp z]
      exact c
  · have pm := c2 c
    refine ⟨fun p hp => ?_, fun p hp => ?_, by rw [pm.length_eq, List.length_cons]; exact Nat.succ_le_succ g.len⟩
    · rw [ht]
      rcases List.mem_cons.mp (pm.mem_iff.mp hp) with e | z
      · rw [e]
        exact List.mem_append_right _ (List.mem_singleton.mpr rfl)
      · exact List.mem_append_left _ (g.sub p z)
    · rw [(pm.map (·.2)).mem_iff, List.map_cons]
      rw [ht] at hp
      rcases List.mem_append.mp hp with z | z
      · exact List.mem_cons_of_mem _ (g.all p z)
      · rw [List.mem_singleton.mp z]
        exact List.mem_cons_self

section
variable {P : Program} {w : World} {A : Around} {E : Value → Shared → Prop} {s : Shared} {J : Heap → Addr → List En → Prop} {Ok : Heap → En → Prop}
/-- the loop of set.update -/
theorem upd_loop (D : Adder P w J Ok) {I : Addr} {fp wr : List Addr} {G : Array GenState → Array GenState → Prop} {n : Nat} {Pv : Nat → Value → Prop} {St : Nat → Shared → Prop} {R : Result → Shared → Prop}
    (W : WalksS P w A.in1 I fp wr G n Pv St) (S : Addr) (hSf : S ∉ fp) (ks : List En) (hn : n = ks.length) (hfew : ks.length < 64) (hval : ∀ i v, Pv i v → ∃ p, ks[i]? = some p ∧ v = p.1)
    (h0 : Heap) (hk : ∀ p ∈ ks, Ok h0 p) (hS0 : h0.get? S = none) (hw0 : ∀ b ∈ wr, h0.get? b = none) (hu : A.in1.units + 8 < cLine) :
    ∀ (k i : Nat) (s : Shared), n - i = k → i ≤ n → St i s → (∀ b o, h0.get? b = some o → s.heap.get? b = some o) → (∃ L, J s.heap S L ∧ GotN ks i L) →
      (∀ s' L, Moved (S :: wr) G s s' → J s'.heap S L → GotN ks n L → (∀ b o, h0.get? b = some o → s'.heap.get? b = some o) → R (.ok (.ret .none)) s') →
      codeAny (model P w) A (.builtin "set.update.loop" ⟨[.ref S, .ref I], []⟩) R s := by
  have hSw : S ∉ wr := fun h => hSf (W.sub _ h)
  have hsub : ∀ b ∈ wr, b ∈ S :: wr := fun b hb => List.mem_cons_of_mem _ hb
  have keepM : ∀ {s s' : Shared}, Moved wr G s s' → (∀ b o, h0.get? b = some o → s.heap.get? b = some o) → ∀ b o, h0.get? b = some o → s'.heap.get? b = some o := fun hm hkp b o e =>
    hm.heap b o (fun hb => by rw [hw0 b hb] at e; cases e) (hkp b o e)
  intro k
  induction k with
  | zero =>
    intro i s hk' hi hst hkp ⟨L, hS, g⟩ hR
    have hin : i = n := by omega
    subst hin
    refine codeAny_builtin F.entry_set_update_loop ?_
    rw [Around.under_plainId F.plain_set_update_loop _]
    show wpAny _ A.in1 (pyNext (.ref I) >>= _) _ _ s
    refine wpAny_bind (W.done s _ _ hst fun s' hm => ?_)
    show wpAny _ A.in1 (ret Value.none) _ _ s'
    have hkp' := keepM hm hkp
    exact wpAny_pure (hR s' L (hm.mono hsub) (D.keep hS (fun o e => hm.heap S o hSw e) fun p hp => D.ok (hk p (List.mem_of_mem_take (g.sub p hp))) hkp') g hkp')
  | succ k ih =>
    intro i s hk' hi hst hkp ⟨L, hS, g⟩ hR
    have hlt : i < n := by omega
    refine codeAny_builtin F.entry_set_update_loop ?_
    rw [Around.under_plainId F.plain_set_update_loop _]
    show wpAny _ A.in1 (pyNext (.ref I) >>= _) _ _ s
    refine wpAny_bind (W.item i s _ _ hlt hst fun v s' hP hst' hm => ?_)
    obtain ⟨p, hp, rfl⟩ := hval i v hP
    have hkp' := keepM hm hkp
    have hS' : J s'.heap S L := D.keep hS (fun o e => hm.heap S o hSw e) fun q hq => D.ok (hk q (List.mem_of_mem_take (g.sub q hq))) hkp'
    have hx : Ok s'.heap p := D.ok (hk p (List.mem_of_getElem? hp)) hkp'
    obtain ⟨hN, hdp⟩ := D.key hx
    show wpAny _ A.in1 (holding [p.1] (setAdd S p.1) >>= _) _ _ s'
    refine wpAny_bind (wpAny_holding ?_)
    unfold setAdd
    refine wpAny_holding ?_
    refine wpAny_bind (pyHash_key p.2 p.1 _ _ _ hN (by omega) ?_)
    refine D.add (s := { s' with toks := s'.toks + p.2.draws }) hS' hx hu (by have := g.len; omega) fun b h' L' hsb hS2 c1 c2 => ?_
    have g' := g.next hp c1 c2
    have hkp2 : ∀ b o, h0.get? b = some o → h'.get? b = some o := fun b o e => (hsb.2 b (fun z => by rw [z, hS0] at e; cases e)).trans (hkp' b o e)
    refine wpAny_pure ⟨plainId_quiet F.plain_set_update_loop _, ih (i + 1) _ (by omega) hlt (W.frame _ s' _ _ hst' (Nat.le_add_right _ _) fun b hb o e => ?_) hkp2 ⟨L', hS2, g'⟩ fun s'' L2 hm'' hS'' g'' hkp'' => ?_⟩
    · rw [hsb.2 b (fun h : b = S => hSf (by rw [← h]; exact hb))]
      exact e
    · refine hR s'' L2 (Moved.trans W.gtrans ((hm.mono hsub).then_heap (Nat.le_add_right _ _) fun b o hb e => ?_) hm'') hS'' g'' hkp''
      rw [hsb.2 b (fun h : b = S => hb (by rw [h]; exact List.mem_cons_self))]
      exact e

/-- a list or a tuple -/
def SrcAt (h : Heap) (l : Addr) (items : Array Value) : Prop := h.IsList l items ∨ h.IsTuple l items
theorem src_facts {T : String} (hT : T = "list" ∨ T = "tuple") : isSubtype (.type T) (.type "set") = pure false ∧ isSubtype (.type T) (.type "frozenset") = pure false ∧ (Value.type T == Value.type "dict") = false := by
  rcases hT with e | e <;> subst e
  · exact ⟨F.sub_list_set, F.sub_list_frozenset, by decide⟩
  · refine ⟨by rw [isSubtype_type]; kernel_rfl, by rw [isSubtype_type]; kernel_rfl, by decide⟩

set_option maxHeartbeats 8000000 in
/-- set(xs) -/
theorem call_setN (D : Adder P w J Ok) {l : Addr} {items : Array Value} (ks : List En) {Q : Value → Shared → Prop} (hh : A.handled = none) (hl : SrcAt s.heap l items) (hit : items.toList = ks.map (·.1))
    (hk : ∀ p ∈ ks, Ok s.heap p) (hfew : ks.length < 64) (hu : A.units + 16 < cLine)
    (h : ∀ (h' : Heap) (tk : Nat) L, J h' s.heap.objs.size L → GotN ks ks.length L → (∀ b o, s.heap.get? b = some o → h'.get? b = some o) → Q (.ref s.heap.objs.size) { s with heap := h', toks := tk }) :
    wpAny (model P w) A (call (.type "set") [.ref l]) Q E s := by
  have hisz : items.size = ks.length := by
    have q := congrArg List.length hit
    rwa [Array.length_toList, List.length_map] at q
  obtain ⟨c, tl, hmro⟩ := F.called_set.mro
  have hmade := F.called_set.made
  have hsub := F.called_set.sub
  refine wpAny_call (codeAny_of_tree ?_)
  show wpAny _ _ (callAny (.type "set") _) _ _ _
  refine wpAny_pure ⟨Code.quiet_builtin _ (by decide +kernel), codeAny_builtin F.entry_type_call ?_⟩
  rw [Around.under_plain (weight_type_call_type "set" [.ref l] []) rfl]
  have h1 := F.called_set.notType
  have h2 := F.called_set.canCreate
  have hct := F.typeCall_set_1 (.ref l)
  repeat (any_goals (first | assumption | wp_step))
  refine codeAny_mono (code_set_led1 (.ref l) (E := E) (Q₁ := fun obj s₁ => obj = .ref s.heap.objs.size ∧ s₁ = { s with heap := s.heap.push (freshSet w) }) ⟨rfl, rfl⟩) fun r s₁ hr => ?_
  cases r with
  | error e => exact hr
  | ok fl =>
    cases fl with
    | ret obj =>
      obtain ⟨rfl, rfl⟩ := hr
      have hS : (s.heap.push (freshSet w)).get? s.heap.objs.size = some (freshSet w) := Heap.get?_push_size _ rfl
      have hT : Shared.TypeIs { s with heap := s.heap.push (freshSet w) } (.ref s.heap.objs.size) "set" := ⟨_, hS, rfl⟩
      have hli := F.called_set.init.lookup
      have hbi := F.called_set.init.bind (.ref s.heap.objs.size)
      repeat (any_goals (first | assumption | wp_step))
      refine codeAny_mono (codeAny_call_builtin (R := wants (fun r s₂ => r = .none ∧ ∃ h' tk L, s₂ = { s with heap := h', toks := tk } ∧ J h' s.heap.objs.size L ∧ GotN ks ks.length L ∧
          (∀ b o, s.heap.get? b = some o → h'.get? b = some o)) E) F.called_set.init.plain F.entry_set_init (check_set_init_1 hT ?_)) fun r₂ s₂ hr₂ => ?_
      · have hz1 : (s.heap.push (freshSet w)).objs.size = s.heap.objs.size + 1 := Heap.size_push ..
        have none_of : ∀ b, s.heap.objs.size ≤ b → s.heap.get? b = none := fun b hb => Heap.get?_none_of_le hb
        have hval : ∀ (i : Nat) (v : Value), items[i]? = some v → ∃ p, ks[i]? = some p ∧ v = p.1 := fun i v hv => by
          have q : items.toList[i]? = some v := by rw [Array.getElem?_toList]; exact hv
          rw [hit, List.getElem?_map] at q
          obtain ⟨p, hp, e⟩ := Option.map_eq_some_iff.mp q
          exact ⟨p, hp, e.symm⟩
        have hh3 : A.in1.in1.in1.handled = none := by simp [hh]
        have hu3 : A.in1.in1.in1.units + 8 < cLine := by
          show A.units + 1 + 1 + 1 + 8 < cLine
          omega
        -- the loop, from an iterator
        have turns : ∀ {h2 : Heap} {I : Addr} {fp wr : List Addr} {St : Nat → Shared → Prop}, I = s.heap.objs.size + 1 → fp = [I, l] → wr = [I] → l < s.heap.objs.size → (∀ b o, (s.heap.push (freshSet w)).get? b = some o → h2.get? b = some o) →
            WalksS P w A.in1.in1.in1 I fp wr (fun g g' => g' = g) items.size (fun i v => items[i]? = some v) St → St 0 { s with heap := h2 } →
            codeAny (model P w) A.in1.in1 (.builtin "set.update.loop" ⟨[.ref s.heap.objs.size, .ref I], []⟩) (wants (fun r s₂ => r = .none ∧ ∃ h' tk L, s₂ = { s with heap := h', toks := tk } ∧ J h' s.heap.objs.size L ∧ GotN ks ks.length L ∧ (∀ b o, s.heap.get? b = some o → h'.get? b = some o)) E) { s with heap := h2 } := by
          intro h2 I fp wr St hI hfp hwr hlS hk2 W hst
          subst hfp hwr hI
          have hk3 : ∀ b o, s.heap.get? b = some o → h2.get? b = some o := fun b o e => hk2 b o (Heap.get?_push_of_some _ e)
          refine upd_loop D W s.heap.objs.size (by
              simp only [List.mem_cons, List.not_mem_nil, or_false, not_or]
              exact ⟨Nat.ne_of_lt (Nat.lt_succ_self _), Nat.ne_of_gt hlS⟩) ks hisz hfew hval s.heap hk (none_of _ (Nat.le_refl _)) (fun b hb => none_of b (by
              rw [List.mem_singleton.mp hb]
              exact Nat.le_succ _)) hu3 items.size 0 _ rfl (Nat.zero_le _) hst hk3 ⟨[], D.new (hk2 _ _ hS), ⟨fun p hp => (by cases hp), fun p hp => (by simp at hp), Nat.le_refl _⟩⟩ fun s' L hm hS' g' hkp => ?_
          obtain ⟨h', g2, d', tk', os'⟩ := s'
          have eg : g2 = s.gens := hm.gens
          have ed : d' = s.drawn := hm.drawn
          have eo : os' = s.os := hm.os
          subst eg; subst ed; subst eo
          rw [hisz] at g'
          exact ⟨rfl, h', tk', L, rfl, hS', g', hkp⟩
        rcases hl with hl | hl
        · obtain ⟨ol, hol, hcl, nl, hdl⟩ := hl
          obtain ⟨ocls, odict, odata, oslots⟩ := ol
          simp only at hcl hdl
          subst hcl; subst hdl
          have hol' : (s.heap.push (freshSet w)).get? l = some { cls := .type "list", dict := odict, data := .seq items nl, slots := oslots } := Heap.get?_push_of_some _ hol
          have hlS : l < s.heap.objs.size := Heap.lt_size hol
          obtain ⟨hsls, hslf, hne⟩ := src_facts (.inl rfl)
          have hl1 : (s.heap.push (freshSet w)).IsList l items := ⟨_, hol', rfl, nl, rfl⟩
          unfold Builtin.«set.__init__» noKeywords Builtin.Frozenset.updateFrom
          generalize hPI : pyIter = PI
          wp_walk
          subst hPI
          refine wpAny_pyIter_list hl1 ?_
          refine wpAny_bind (wpAny_runValue ?_)
          refine codeAny_mono (turns hz1 rfl rfl hlS (fun b o e => Heap.get?_push_of_some _ e) ((Walks.list hh3 _ l (by rw [hz1]; exact Nat.ne_of_lt (Nat.lt_succ_of_lt hlS)) items).toS) ⟨⟨_, Heap.get?_push_size _ rfl, rfl, rfl⟩, hl1.push _⟩) fun r s2 hr => ?_
          cases r with
          | error e => exact hr
          | ok fl =>
            cases fl with
            | ret v =>
              obtain ⟨rfl, rest⟩ := hr
              show wpAny _ _ _ _ _ _
              refine wpAny_pure ?_
              show wpAny _ _ (ret Value.none) _ _ _
              exact wpAny_pure ⟨rfl, rest⟩
            | _ => exact hr.elim
        · obtain ⟨ol, hol, hcl, nl, hdl⟩ := hl
          obtain ⟨ocls, odict, odata, oslots⟩ := ol
          simp only at hcl hdl
          subst hcl; subst hdl
          have hol' : (s.heap.push (freshSet w)).get? l = some { cls := .type "tuple", dict := odict, data := .seq items nl, slots := oslots } := Heap.get?_push_of_some _ hol
          have hlS : l < s.heap.objs.size := Heap.lt_size hol
          obtain ⟨hsls, hslf, hne⟩ := src_facts (.inr rfl)
          have hl1 : (s.heap.push (freshSet w)).IsTuple l items := ⟨_, hol', rfl, nl, rfl⟩
          unfold Builtin.«set.__init__» noKeywords Builtin.Frozenset.updateFrom
          generalize hPI : pyIter = PI
          wp_walk
          subst hPI
          refine wpAny_pyIter_tuple hl1 ?_
          refine wpAny_bind (wpAny_runValue ?_)
          refine codeAny_mono (turns hz1 rfl rfl hlS (fun b o e => Heap.get?_push_of_some _ e) ((Walks.tuple hh3 _ l (by rw [hz1]; exact Nat.ne_of_lt (Nat.lt_succ_of_lt hlS)) items).toS) ⟨⟨_, Heap.get?_push_size _ rfl, rfl, rfl⟩, hl1.push _⟩) fun r s2 hr => ?_
          cases r with
          | error e => exact hr
          | ok fl =>
            cases fl with
            | ret v =>
              obtain ⟨rfl, rest⟩ := hr
              show wpAny _ _ _ _ _ _
              refine wpAny_pure ?_
              show wpAny _ _ (ret Value.none) _ _ _
              exact wpAny_pure ⟨rfl, rest⟩
            | _ => exact hr.elim
      · cases r₂ with
        | error e => exact hr₂
        | ok fl₂ =>
          cases fl₂ with
          | ret r =>
            obtain ⟨rfl, h', tk, L, rfl, hS', g', hk'⟩ := hr₂
            repeat (any_goals (first | assumption | wp_step))
            exact h _ _ _ hS' g' hk'
          | _ => exact hr₂.elim
    | _ => exact hr.elim
end
end Sh

set_option maxHeartbeats 4000000
/-! Layer H: sorted(set(..)), len(set(..)), sorted(dict). -/
namespace Sh
open PySem PySem.Spec PyProof.Rows L2

/-! ### data as keys -/
mutual
def nk : PyData → NestedKey
  | .int i => .num i
  | .str x => .text x
  | .tuple ds => .tup (nks ds)
  | .bool b => .num (if b = true then 1 else 0)
  | _ => .none
def nks : List PyData → List NestedKey
  | [] => []
  | d :: ds => nk d :: nks ds
end
mutual
/-- ints, texts and tuples of such -/
def keyD : PyData → Bool
  | .int _ => true
  | .str _ => true
  | .tuple ds => keyDs ds
  | _ => false
def keyDs : List PyData → Bool
  | [] => true
  | d :: ds => keyD d && keyDs ds
end
mutual
theorem nk_inj : ∀ d e : PyData, keyD d = true → keyD e = true → nk d = nk e → d = e
  | .int i, .int j, _, _, h => by
    injection h with h
    rw [h]
  | .str x, .str y, _, _, h => by
    injection h with h
    rw [h]
  | .tuple xs, .tuple ys, h1, h2, h => by
    have h' : NestedKey.tup (nks xs) = .tup (nks ys) := h
    injection h' with h'
    rw [nks_inj xs ys h1 h2 h']
  | .int _, .str _, _, _, h => by cases h
  | .int _, .tuple _, _, _, h => by cases h
  | .str _, .int _, _, _, h => by cases h
  | .str _, .tuple _, _, _, h => by cases h
  | .tuple _, .int _, _, _, h => by cases h
  | .tuple _, .str _, _, _, h => by cases h
  | .none, _, h1, _, _ => by cases h1
  | .bool _, _, h1, _, _ => by cases h1
  | .list _, _, h1, _, _ => by cases h1
  | .dict _, _, h1, _, _ => by cases h1
  | _, .none, _, h2, _ => by cases h2
  | _, .bool _, _, h2, _ => by cases h2
  | _, .list _, _, h2, _ => by cases h2
  | _, .dict _, _, h2, _ => by cases h2
theorem nks_inj : ∀ xs ys : List PyData, keyDs xs = true → keyDs ys = true → nks xs = nks ys → xs = ys
  | [], [], _, _, _ => rfl
  | d :: ds, e :: es, h1, h2, h => by
    have h1' : (keyD d && keyDs ds) = true := h1
    have h2' : (keyD e && keyDs es) = true := h2
    rw [Bool.and_eq_true] at h1' h2'
    have h' : nk d :: nks ds = nk e :: nks es := h
    injection h' with a b
    rw [nk_inj d e h1'.1 h2'.1 a, nks_inj ds es h1'.2 h2'.2 b]
  | [], _ :: _, _, _, h => by cases h
  | _ :: _, [], _, _, h => by cases h
end
mutual
theorem reads_key {h : Heap} : ∀ (d : PyData) (v : Value) (as : List Addr), keyD d = true → Reads h v d as → NestedIs h (nk d) v ∧ as = []
  | .int i, _, _, _, r => by
    cases r
    exact ⟨.int _ _, rfl⟩
  | .str x, _, _, _, r => by
    cases r
    exact ⟨.text _ _, rfl⟩
  | .tuple ds, _, _, hk, r => by
    cases r with
    | tuple h1 h2 h3 h4 =>
      obtain ⟨q1, q2⟩ := reads_keys ds _ _ hk h4
      exact ⟨.tup h1 h2 h3 q1, q2⟩
  | .none, _, _, hk, _ => by cases hk
  | .bool _, _, _, hk, _ => by cases hk
  | .list _, _, _, hk, _ => by cases hk
  | .dict _, _, _, hk, _ => by cases hk
theorem reads_keys {h : Heap} : ∀ (ds : List PyData) (vs : List Value) (as : List Addr), keyDs ds = true → ReadsAll h vs ds as → NestedAll h (nks ds) vs ∧ as = []
  | [], _, _, _, r => by
    cases r
    exact ⟨.nil, rfl⟩
  | d :: ds, _, _, hk, r => by
    have hk' : (keyD d && keyDs ds) = true := hk
    rw [Bool.and_eq_true] at hk'
    cases r with
    | cons r1 r2 =>
      obtain ⟨q1, q2⟩ := reads_key d _ _ hk'.1 r1
      obtain ⟨p1, p2⟩ := reads_keys ds _ _ hk'.2 r2
      exact ⟨.cons q1 p1, by rw [q2, p2] <;> rfl⟩
end

/-! ### lists that are turned about -/
theorem perm_lift {α β : Type} (f : α → β) : ∀ (l : List β) (L : List α), l.Perm (L.map f) → ∃ L' : List α, L'.Perm L ∧ l = L'.map f
  | [], L, h => by
    have e : L = [] := by
      have q := h.length_eq
      rw [List.length_map, List.length_nil] at q
      exact List.eq_nil_of_length_eq_zero q.symm
    exact ⟨[], by rw [e], rfl⟩
  | b :: l, L, h => by
    obtain ⟨p, hp, e⟩ := List.mem_map.mp (h.mem_iff.mp List.mem_cons_self)
    obtain ⟨A, B, eL⟩ := List.append_of_mem hp
    have pm : L.Perm (p :: (A ++ B)) := by
      rw [eL]
      exact List.perm_middle
    have q := h.trans (pm.map f)
    rw [List.map_cons, e] at q
    obtain ⟨L', h1, h2⟩ := perm_lift f l (A ++ B) ((List.perm_cons b).mp q)
    exact ⟨p :: L', (h1.cons p).trans pm.symm, by rw [List.map_cons, e, h2]⟩
theorem pick_all {α β : Type} {f : α → β} {S : List α} : ∀ (L : List β), (∀ p ∈ L, ∃ q ∈ S, f q = p) → ∃ qs : List α, L = qs.map f ∧ ∀ q ∈ qs, q ∈ S
  | [], _ => ⟨[], rfl, fun q h => by cases h⟩
  | p :: L, h => by
    obtain ⟨q, h1, h2⟩ := h p List.mem_cons_self
    obtain ⟨qs, h3, h4⟩ := pick_all L fun r hr => h r (List.mem_cons_of_mem _ hr)
    refine ⟨q :: qs, by rw [List.map_cons, h2, h3], fun r hr => ?_⟩
    rcases List.mem_cons.mp hr with e | hr
    · rw [e]
      exact h1
    · exact h4 r hr
open PySem.W (EachIs AllAlike Sortable dataLe)
theorem each_of_zip {α β : Type} {R : α → β → Prop} : ∀ (qs : List (α × β)), (∀ q ∈ qs, R q.1 q.2) → EachIs R (qs.map (·.1)) (qs.map (·.2))
  | [], _ => .nil
  | q :: qs, h => .cons (h q List.mem_cons_self) (each_of_zip qs fun r hr => h r (List.mem_cons_of_mem _ hr))
theorem each_to_zip {α β γ : Type} {S : γ → β → Prop} {R : α → γ → Prop} : ∀ {us : List α} {bs : List β}, EachIs (fun u b => ∃ x, S x b ∧ R u x) us bs → ∃ zs : List (γ × β), zs.map (·.2) = bs ∧ (∀ z ∈ zs, S z.1 z.2) ∧ EachIs R us (zs.map (·.1))
  | _, _, .nil => ⟨[], rfl, fun z h => (by cases h), .nil⟩
  | _, _, .cons ⟨x, h1, h2⟩ t => by
    obtain ⟨zs, e, a, b⟩ := each_to_zip t
    refine ⟨(x, _) :: zs, by rw [List.map_cons, e], fun z hz => ?_, .cons h2 b⟩
    rcases List.mem_cons.mp hz with e | hz
    · rw [e]
      exact h1
    · exact a z hz
theorem vals_each {us : List Value} {xs : List V} (h : EachIs (fun u x => RelV x u) us xs) : Vals xs us := by
  induction h with
  | nil => exact .nil
  | cons h _ ih => exact .cons h ih

/-! ### sorted over what is gathered -/
section
variable {P : Program} {w : World} {A : Around} {E : Value → Shared → Prop} {s : Shared}
/-- what is gathered may be sorted -/
structure Sorts (A : Around) (h : Heap) (R : Value → PyData → Prop) (vs : List Value) (bs : List PyData) : Prop where
  each : EachIs R vs bs
  reads : EachIs (fun v b => ∃ as, Reads h v b as) vs bs
  keys : ∀ b ∈ bs, keyD b = true ∧ b.depth ≤ 8
  alike : AllAlike bs
  sortable : Sortable bs
  few : bs.length ≤ 1000
theorem reads_no {h : Heap} : ∀ {vs : List Value} {bs : List PyData} {a : Addr}, EachIs (fun v b => ∃ as, Reads h v b as) vs bs → (∀ b ∈ bs, keyD b = true ∧ b.depth ≤ 8) → EachIs (fun v b => ∃ as, Reads h v b as ∧ a ∉ as) vs bs
  | _, _, _, .nil, _ => .nil
  | _, _, _, .cons ⟨as, r⟩ t, hk => .cons ⟨as, r, by rw [(reads_key _ _ _ (hk _ List.mem_cons_self).1 r).2]; exact fun z => nomatch z⟩ (reads_no t fun b hb => hk b (List.mem_cons_of_mem _ hb))
theorem sorted_from {x : Value} {R : Value → PyData → Prop} {Q : Value → Shared → Prop} (hu : A.units + 16 < cLine) {G : Shared → List Value → Prop} (hcol : ∀ Q' : List Value → Shared → Prop, (∀ s' vs, G s' vs → Q' vs s') → wpAny (model P w) A.in1 (collect x) Q' E s)
    (hG : ∀ s' vs, G s' vs → ∃ bs, Sorts A s'.heap R vs bs ∧ ∀ (out : Array Value) (c : Nat) (h' : Heap), (∀ b o, s'.heap.get? b = some o → h'.get? b = some o) → h'.get? s'.heap.objs.size = some (seqObj "list" out c) →
      EachIs R out.toList (bs.mergeSort (dataLe false id)) → Q (.ref s'.heap.objs.size) { s' with heap := h' }) :
    wpAny (model P w) A (call (.builtin "sorted") [x]) Q E s := by
  refine Calls.call_function_entry kind_sorted plain_sorted entry_sorted (args_sorted1 _) ?_
  unfold Builtin.«sorted»
  refine wpAny_bind (m := checkCount "sorted" 1 1 _) (wpAny_pure ?_)
  refine wpAny_bind (hcol _ fun s' vs g => ?_)
  obtain ⟨bs, S, hQ⟩ := hG s' vs g
  have hlen : vs.length = bs.length := S.each.length
  have hfew := S.few
  refine wpAny_bind (wpAny_newList ?_ (by rw [hlen, sizeLine_eq]; omega))
  have hoL : (s'.heap.push (seqObj "list" vs.toArray 0)).get? s'.heap.objs.size = some (seqObj "list" vs.toArray 0) := Heap.get?_push_size _ rfl
  have er : EachIs (fun v b => ∃ as, Reads (s'.heap.push (seqObj "list" vs.toArray 0)) v b as) vs bs := S.reads.mono fun _ _ ⟨as, r⟩ => ⟨as, PyProof.Rows.Reads.keeps (fun b o e => Heap.get?_push_of_some _ e) r⟩
  refine wpAny_bind (wpAny_holding (PySem.W.list_sort_data (enc := id) (R := R) (s := { s' with heap := s'.heap.push (seqObj "list" vs.toArray 0) }) hoL S.each (reads_no er S.keys) (by rw [List.map_id]; exact S.alike) (by rw [List.map_id]; exact S.sortable) (by rw [sizeLine_eq]; omega)
    (fun b hb => by
      have := (S.keys b hb).2
      show A.units + 1 + 1 + b.depth < cLine
      omega) fun out h1 h2 => ?_))
  obtain ⟨c, hc⟩ := sortedHeap_at (vs := vs) (out := out.toArray) hoL
  refine wpAny_pure ⟨_, rfl, hQ out.toArray c _ (fun b u e => ?_) hc (by simpa using h2)⟩
  have hlt := Heap.lt_size e
  rw [sortedHeap_old (Nat.ne_of_lt hlt) (by rw [size_push']; exact Nat.lt_succ_of_lt hlt)]
  exact Heap.get?_push_of_some _ e
end
/-- data that a set may hold: few, all texts or all tuples, with an order -/
structure KeyL (ds : List PyData) : Prop where
  few : ds.length < 64
  keys : ∀ d ∈ ds, keyD d = true ∧ d.depth ≤ 8 ∧ (nk d).depth ≤ 8
  kind : (∀ d ∈ ds, ∃ x, d = .str x) ∨ (∀ d ∈ ds, ∃ r, d = .tuple r)
abbrev Trip : Type := Value × V × PyData
section
variable {X : Cx} {pins : List (Addr × Obj)} {σ : L2.St} {H : Hp} {s : Shared}
theorem trips (I : L2.Inv X pins σ H s) : ∀ (ds : List PyData) (xs : List V) (us : List Value), DpAll X.K H xs ds → Vals xs us →
    ∃ ts : List Trip, us = ts.map (·.1) ∧ ds = ts.map (·.2.2) ∧ ∀ t ∈ ts, RelV t.2.1 t.1 ∧ (t.2.1, t.2.2) ∈ xs.zip ds ∧ ∃ as, Reads s.heap t.1 t.2.2 as
  | [], _, _, h, r => by
    cases h
    cases r
    exact ⟨[], rfl, rfl, fun t z => by cases z⟩
  | d :: ds, x :: _, u :: _, h, r => by
    cases h with
    | cons h1 h2 =>
      cases r with
      | cons r1 r2 =>
        obtain ⟨as, q⟩ := Dp.reads I d _ _ h1 r1
        obtain ⟨ts, e1, e2, e3⟩ := trips I ds _ _ h2 r2
        refine ⟨(u, x, d) :: ts, by rw [List.map_cons, e1], by rw [List.map_cons, ← e2], fun t z => ?_⟩
        rcases List.mem_cons.mp z with z | z
        · rw [z]
          exact ⟨r1, List.mem_cons_self, as, q⟩
        · obtain ⟨p1, p2, p3⟩ := e3 t z
          exact ⟨p1, List.mem_cons_of_mem _ p2, p3⟩
theorem each_trip {R : Value → PyData → Prop} : ∀ (qs : List Trip), (∀ q ∈ qs, R q.1 q.2.2) → EachIs R (qs.map (·.1)) (qs.map (·.2.2))
  | [], _ => .nil
  | q :: qs, h => .cons (h q List.mem_cons_self) (each_trip qs fun r hr => h r (List.mem_cons_of_mem _ hr))
/-- a triple as a set's entry -/
def enOf (t : Trip) : En := (t.1, nk t.2.2)
/-- set(xs) of keys: any set's end with what is in it -/
theorem set_of_keys {A : Around} {E : Value → Shared → Prop} (hh : A.handled = none) (hu : A.units + 64 < cLine) (ts : List Trip) {ds : List PyData} (e2 : ds = ts.map (·.2.2)) (kl : KeyL ds) (hr : ∀ t ∈ ts, ∃ as, Reads s.heap t.1 t.2.2 as)
    {l : Addr} {items : Array Value} (hl : SrcAt s.heap l items) (hit : items.toList = ts.map (·.1)) {P : Program} {w : World} {Q : Value → Shared → Prop}
    (h : ∀ (h' : Heap) (tk : Nat) (L : List En), SetE w h' s.heap.objs.size L → (∀ p ∈ L, p ∈ ts.map enOf) → (∀ t ∈ ts, nk t.2.2 ∈ L.map (·.2)) → (∀ b o, s.heap.get? b = some o → h'.get? b = some o) → Q (.ref s.heap.objs.size) { s with heap := h', toks := tk }) :
    wpAny (model P w) A (call (.type "set") [.ref l]) Q E s := by
  have hl64 : (ts.map enOf).length < 64 := by
    have := kl.few
    rw [e2, List.length_map] at this
    rwa [List.length_map]
  have hit' : items.toList = (ts.map enOf).map (·.1) := by
    rw [hit, List.map_map] <;> rfl
  have fin : ∀ {J : Heap → Addr → List En → Prop} {Ok : Heap → En → Prop}, Adder P w J Ok → (∀ p ∈ ts.map enOf, Ok s.heap p) → wpAny (model P w) A (call (.type "set") [.ref l]) Q E s := fun {J Ok} D hok => by
    refine call_setN D (ts.map enOf) hh hl hit' hok hl64 (by omega) fun h' tk L hj g hk => h h' tk L (D.fin hj) (fun p hp => List.mem_of_mem_take (g.sub p hp)) (fun t ht => ?_) hk
    exact g.all (enOf t) (by rw [List.take_length]; exact List.mem_map.mpr ⟨t, ht, rfl⟩)
  have hmem : ∀ t ∈ ts, t.2.2 ∈ ds := fun t ht => by
    rw [e2]
    exact List.mem_map.mpr ⟨t, ht, rfl⟩
  rcases kl.kind with k | k
  · refine fin (adder_txt P w) fun p hp => ?_
    obtain ⟨t, ht, rfl⟩ := List.mem_map.mp hp
    obtain ⟨u, x, d⟩ := t
    obtain ⟨y, e⟩ := k _ (hmem _ ht)
    have e' : d = .str y := e
    subst e'
    obtain ⟨as, r⟩ := hr _ ht
    have r' : Reads s.heap u (.str y) as := r
    cases r'
    exact ⟨y, _, rfl⟩
  · refine fin (adder_key P w) fun p hp => ?_
    obtain ⟨t, ht, rfl⟩ := List.mem_map.mp hp
    obtain ⟨u, x, d⟩ := t
    obtain ⟨y, e⟩ := k _ (hmem _ ht)
    have e' : d = .tuple y := e
    subst e'
    obtain ⟨as, r⟩ := hr _ ht
    obtain ⟨k1, k2, k3⟩ := kl.keys _ (hmem _ ht)
    have n := (reads_key _ _ _ k1 r).1
    have r' : Reads s.heap u (.tuple y) as := r
    cases r' with
    | tuple a1 a2 a3 a4 => exact ⟨n, k3, ⟨_, rfl⟩, _, rfl⟩

/-- sorted over that set -/
theorem sorted_of_set {Q : VK} (hh : X.A.handled = none) (hu : X.A.units + 64 < cLine) {ts : List Trip} {xs : List V} {ds : List PyData} (e2 : ds = ts.map (·.2.2)) (kl : KeyL ds) (hal : AllAlike ds) (hso : Sortable ds) {a : Addr} {L : List En} (I : Inv X pins σ H s)
    (ht : ∀ t ∈ ts, RelV t.2.1 t.1 ∧ (t.2.1, t.2.2) ∈ xs.zip ds ∧ ∃ as, Reads s.heap t.1 t.2.2 as) (R : SetE X.w s.heap a L) (hsub : ∀ p ∈ L, p ∈ ts.map enOf) (hall : ∀ t ∈ ts, nk t.2.2 ∈ L.map (·.2))
    (q : ∀ (zs : List (V × PyData)) (p : Addr) (D : List PyData), (∀ z ∈ zs, z ∈ xs.zip ds) → D.Nodup → (∀ d, d ∈ D ↔ d ∈ ds) → zs.map (·.2) = D.mergeSort (dataLe false id) → H p = none → Q (.ref p) (upd H p (.lst (zs.map (·.1))))) :
    wpAny (model X.prog X.w) X.A (call (.builtin "sorted") [.ref a]) (EP X pins σ Q) X.xe s := by
  obtain ⟨o, es, ep, t, ho, hex, hd, pm, hb, hf, hr, hl⟩ := R.ex
  refine sorted_from (R := fun u d => ∃ x, (x, d) ∈ xs.zip ds ∧ RelV x u) (G := fun s' vs => (∀ b o, s.heap.get? b = some o → s'.heap.get? b = some o) ∧ s.heap.objs.size ≤ s'.heap.objs.size ∧ s'.gens = s.gens ∧ s'.os = s.os ∧ vs.Perm (L.map (·.1))) (by omega)
    (fun Q' hQ' => collect_set (A := X.A.in1) hh ⟨o, ho, hex.1, hd⟩ hf hb hr hl fun s1 vs k1 hz g1 o1 p1 => hQ' s1 vs ⟨k1, hz, g1, o1, p1.trans pm⟩) fun s1 vs ⟨k1, hz, g1, o1, p1⟩ => ?_
  obtain ⟨L', pL, rfl⟩ := perm_lift (fun p : En => p.1) vs L p1
  obtain ⟨qs, rfl, hqs⟩ := pick_all (f := enOf) (S := ts) L' fun p hp => by
    obtain ⟨t, h1, h2⟩ := List.mem_map.mp (hsub p (pL.mem_iff.mp hp))
    exact ⟨t, h1, h2⟩
  have ev : (qs.map enOf).map (fun p : En => p.1) = qs.map (·.1) := by
    rw [List.map_map] <;> rfl
  have ek : (qs.map enOf).map (fun p : En => p.2) = (qs.map (·.2.2)).map nk := by
    rw [List.map_map, List.map_map] <;> rfl
  rw [ev]
  have hin : ∀ d ∈ qs.map (·.2.2), d ∈ ds := fun d hd => by
    obtain ⟨t, h1, rfl⟩ := List.mem_map.mp hd
    rw [e2]
    exact List.mem_map.mpr ⟨t, hqs t h1, rfl⟩
  have hlen : (qs.map (·.2.2)).length < 64 := by
    have h1 := pL.length_eq
    have h2 := R.few
    rw [List.length_map] at h1 ⊢
    omega
  have ndk : ((qs.map (·.2.2)).map nk).Nodup := by
    rw [← ek]
    exact (pL.map (·.2)).nodup_iff.mpr R.nd
  have nd : (qs.map (·.2.2)).Nodup := nodup_of_map ndk
  refine ⟨qs.map (·.2.2), ⟨each_trip qs fun t h => ⟨t.2.1, (ht t (hqs t h)).2.1, (ht t (hqs t h)).1⟩, each_trip qs fun t h => ?_, fun d hd => ⟨(kl.keys d (hin d hd)).1, (kl.keys d (hin d hd)).2.1⟩, fun d hd d' hd' => hal d (hin d hd) d' (hin d' hd'), ?_, by omega⟩, fun out c h' k2 hp he => ?_⟩
  · obtain ⟨as, r⟩ := (ht t (hqs t h)).2.2
    exact ⟨as, PyProof.Rows.Reads.keeps k1 r⟩
  · rcases hso with z | z
    · exact .inl fun d hd => z d (hin d hd)
    · exact .inr fun d hd => z d (hin d hd)
  · obtain ⟨zs, z1, z2, z3⟩ := each_to_zip he
    have hv : Vals (zs.map (·.1)) out.toList := vals_each z3
    have hn : H s1.heap.objs.size = none := I.hok.fresh hz
    have hzl : (zs.map (·.1)).length ≤ sizeLine := by
      have e := congrArg List.length z1
      rw [List.length_map, List.length_mergeSort] at e
      rw [List.length_map, e, sizeLine_eq]
      omega
    have k3 : ∀ b o, s.heap.get? b = some o → h'.get? b = some o := fun b o e => k2 b o (k1 b o e)
    have J : Inv X pins σ (upd H s1.heap.objs.size (.lst (zs.map (·.1)))) { s with heap := h', gens := s1.gens, drawn := s1.drawn, toks := s1.toks } :=
      I.call (ch := []) (Un.laid k3 hz hn) (I.hok.laid k3 hz ⟨hzl, out.toList, c, hv, hp⟩) (by rw [g1]; exact I.bare) (fun _ z => nomatch z)
    have e : ({ s1 with heap := h' } : Shared) = { s with heap := h', gens := s1.gens, drawn := s1.drawn, toks := s1.toks } := by
      cases s1
      cases s
      cases o1
      rfl
    rw [e]
    refine ⟨.ref s1.heap.objs.size, _, J, rfl, q zs _ (qs.map (·.2.2)) z2 nd (fun d => ⟨hin d, fun hd => ?_⟩) z1 hn⟩
    rw [e2] at hd
    obtain ⟨t, h1, rfl⟩ := List.mem_map.mp hd
    have h2 := hall t h1
    rw [← (pL.map (·.2)).mem_iff, ek] at h2
    obtain ⟨d', h3, h4⟩ := List.mem_map.mp h2
    have h5 : d' = t.2.2 := nk_inj _ _ (kl.keys d' (hin d' h3)).1 (kl.keys t.2.2 (by rw [e2]; exact List.mem_map.mpr ⟨t, h1, rfl⟩)).1 h4
    rw [← h5]
    exact h3
end

/-! ### the expressions -/
def SqA (K : PySem.W.Frag) (H : Hp) (l : Addr) (xs : List V) : Prop := SqL K H l xs ∨ SqT K H l xs
def tSS (K : PySem.W.Frag) (ta : TE) : TE := fun σ H Q => ta σ H fun x H1 => ∃ (l : Addr) (xs : List V) (ds : List PyData), x = .ref l ∧ SqA K H1 l xs ∧ DpAll K H1 xs ds ∧ KeyL ds ∧ AllAlike ds ∧ Sortable ds ∧
  ∀ (zs : List (V × PyData)) (p : Addr) (D : List PyData), (∀ z ∈ zs, z ∈ xs.zip ds) → D.Nodup → (∀ d, d ∈ D ↔ d ∈ ds) → zs.map (·.2) = D.mergeSort (dataLe false id) → H1 p = none → Q (.ref p) (upd H1 p (.lst (zs.map (·.1))))
def tLS (K : PySem.W.Frag) (ta : TE) : TE := fun σ H Q => ta σ H fun x H1 => ∃ (l : Addr) (xs : List V) (ds : List PyData), x = .ref l ∧ SqA K H1 l xs ∧ DpAll K H1 xs ds ∧ KeyL ds ∧ ds.Nodup ∧ Q (.int ds.length) H1
section
variable {X : Cx} {a : Expr} {ta : TE} {p p2 q pos : Pos}
theorem src_at {pins : List (Addr × Obj)} {σ : L2.St} {H : Hp} {s : Shared} {l : Addr} {xs : List V} (I : L2.Inv X pins σ H s) (h : SqA X.K H l xs) : ∃ its : List Value, Vals xs its ∧ SrcAt s.heap l its.toArray := by
  rcases h with h | h
  · obtain ⟨its, rv, pl, _⟩ := I.list h
    exact ⟨its, rv, .inl pl.isList⟩
  · obtain ⟨its, rv, pl, _⟩ := I.tuple h
    exact ⟨its, rv, .inr pl⟩
theorem pe_sortedSet {k : Nat} (hr : Room k X.A) (hg : Gl X "sorted") (hm : X.mg "sorted" = none) (hg2 : Gl X "set") (hm2 : X.mg "set" = none) (ha : PE X a ta)
    (na : starEach [a] X.env = (false, eval a X.env) :: starEach [] X.env := by rfl) : PE X (.Call (.Name "sorted" p) [.Call (.Name "set" p2) [a] [] q] [] pos) (tSS X.K ta) := by
  refine ⟨fun pins s σ H Q I h => ?_⟩
  have hu := hr.un
  refine Call_ (ld_blt I hg hm PyProof.Rows.boot_sorted ?_)
  refine PyProof.Rows.callWith_builtin1 (PyProof.Rows.args_cons ?_ rfl) rfl rfl
  refine Call_ (ld_blt I hg2 hm2 PyProof.Rows.boot_set ?_)
  refine PyProof.Rows.callWith_type1 (PyProof.Rows.args_cons (thn (ha.run pins s σ H _ I h) fun v s1 ⟨x, H1, I1, r1, q1⟩ => PyProof.Rows.args_nil ?_) na) na rfl
  obtain ⟨l, xs, ds, rfl, hq, hd, kl, hal, hso, q1⟩ := q1
  cases r1
  obtain ⟨its, rv, src⟩ := src_at I1 hq
  obtain ⟨ts, e1, e2, ht⟩ := trips I1 ds xs its hd rv
  refine set_of_keys (s := s1) hr.hd (by omega) ts e2 kl (fun t h => (ht t h).2.2) src (by simpa using e1) fun h' tk L R hsub hall hk => ?_
  refine PyProof.Rows.args_nil ?_
  have I2 : L2.Inv X pins σ H1 { s1 with heap := h', toks := tk } := I1.kept hk
  exact sorted_of_set (s := { s1 with heap := h', toks := tk }) hr.hd (by omega) e2 kl hal hso I2 (fun t h => ⟨(ht t h).1, (ht t h).2.1, by
    obtain ⟨as, r⟩ := (ht t h).2.2
    exact ⟨as, PyProof.Rows.Reads.keeps hk r⟩⟩) R hsub hall q1
theorem pe_lenSet {k : Nat} (hr : Room k X.A) (hg : Gl X "len") (hm : X.mg "len" = none) (hg2 : Gl X "set") (hm2 : X.mg "set" = none) (ha : PE X a ta)
    (na : starEach [a] X.env = (false, eval a X.env) :: starEach [] X.env := by rfl) : PE X (.Call (.Name "len" p) [.Call (.Name "set" p2) [a] [] q] [] pos) (tLS X.K ta) := by
  refine ⟨fun pins s σ H Q I h => ?_⟩
  have hu := hr.un
  refine Call_ (ld_blt I hg hm PySem.boot_len ?_)
  refine PyProof.Rows.callWith_builtin1 (PyProof.Rows.args_cons ?_ rfl) rfl rfl
  refine Call_ (ld_blt I hg2 hm2 PyProof.Rows.boot_set ?_)
  refine PyProof.Rows.callWith_type1 (PyProof.Rows.args_cons (thn (ha.run pins s σ H _ I h) fun v s1 ⟨x, H1, I1, r1, q1⟩ => PyProof.Rows.args_nil ?_) na) na rfl
  obtain ⟨l, xs, ds, rfl, hq, hd, kl, hnd, q1⟩ := q1
  cases r1
  obtain ⟨its, rv, src⟩ := src_at I1 hq
  obtain ⟨ts, e1, e2, ht⟩ := trips I1 ds xs its hd rv
  refine set_of_keys (s := s1) hr.hd (by omega) ts e2 kl (fun t h => (ht t h).2.2) src (by simpa using e1) fun h' tk L R hsub hall hk => ?_
  refine PyProof.Rows.args_nil ?_
  have I2 : L2.Inv X pins σ H1 { s1 with heap := h', toks := tk } := I1.kept hk
  obtain ⟨o, es, ep, t, ho, hex, hdt, pm, hb, hf, _, _⟩ := R.ex
  have hinj : (ds.map nk).Nodup := by
    refine List.pairwise_map.mpr (List.Pairwise.imp_of_mem (fun {d e} h1 h2 hne z => hne ?_) hnd)
    exact nk_inj d e (kl.keys d h1).1 (kl.keys e h2).1 z
  have hp : (L.map (·.2)).Perm (ds.map nk) := (List.perm_ext_iff_of_nodup R.nd hinj).mpr fun k => ⟨fun h => by
    obtain ⟨p, h1, rfl⟩ := List.mem_map.mp h
    obtain ⟨t, h2, rfl⟩ := List.mem_map.mp (hsub p h1)
    rw [e2]
    exact List.mem_map.mpr ⟨t.2.2, List.mem_map.mpr ⟨t, h2, rfl⟩, rfl⟩, fun h => by
    obtain ⟨d, h1, rfl⟩ := List.mem_map.mp h
    rw [e2] at h1
    obtain ⟨t, h2, rfl⟩ := List.mem_map.mp h1
    exact hall t h2⟩
  have hlen : es.size = ds.length := by
    have q1 := pm.length_eq
    have q2 := hp.length_eq
    rw [List.length_map, List.length_map] at q1 q2
    rw [Array.length_toList] at q1
    omega
  have h64 := kl.few
  exact call_len_set ho hex hdt hf (by rw [hlen]; omega) ⟨.int ds.length, H1, I2.tok _, ⟨_, by rw [hlen]⟩, q1⟩

/-- sorted(d), d a dict with pairs of ints for keys -/
def pairD (q : Int × Int) : PyData := .tuple [.int q.1, .int q.2]
def pairK (q : Int × Int) : List Key := [.inl q.1, .inl q.2]
def rSortedDT (_ : PySem.W.Frag) : List V → Hp → VK → Prop := fun vs H Q => ∃ (a : Addr) (kvs : List (List Key × V)) (ps : List (Int × Int)), vs = [V.ref a] ∧ H a = some (.dT kvs) ∧ kvs.map (·.1) = ps.map pairK ∧ ps.length ≤ 1000 ∧
  ∀ (zs : List (Addr × (Int × Int))) (p : Addr), (∀ z ∈ zs, H z.1 = some (.tup [.int z.2.1, .int z.2.2])) → zs.map (·.2) = ps.mergeSort (fun x y => decide (x.1 < y.1 ∨ (x.1 = y.1 ∧ x.2 ≤ y.2))) → H p = none → Q (.ref p) (upd H p (.lst (zs.map fun z => V.ref z.1)))
theorem dict_trips {H : Hp} : ∀ {kvs : List (List Key × V)} {ks : List (List Key × Addr × Value)} (ps : List (Int × Int)), Paired (fun (p : List Key × V) (q : List Key × Addr × Value) => p.1 = q.1 ∧ H q.2.1 = some (.tup (p.1.map kV)) ∧ RelV p.2 q.2.2) kvs ks → kvs.map (·.1) = ps.map pairK →
    ∃ zs : List (Addr × (Int × Int)), ks.map (fun x => Value.ref x.2.1) = zs.map (fun z => Value.ref z.1) ∧ ps = zs.map (·.2) ∧ ∀ z ∈ zs, H z.1 = some (.tup [.int z.2.1, .int z.2.2])
  | _, _, [], .nil, _ => ⟨[], rfl, rfl, fun z h => by cases h⟩
  | _, _, [], .cons _ _, e => by cases e
  | _, _, _ :: _, .nil, e => by cases e
  | _, k :: _, p :: ps, .cons h t, e => by
    rw [List.map_cons, List.map_cons] at e
    injection e with e0 e1
    obtain ⟨zs, a1, a2, a3⟩ := dict_trips ps t e1
    refine ⟨(k.2.1, p) :: zs, by rw [List.map_cons, List.map_cons, a1], by rw [List.map_cons, ← a2], fun z hz => ?_⟩
    rcases List.mem_cons.mp hz with z1 | z1
    · rw [z1]
      have q := h.2.1
      rw [e0] at q
      exact q
    · exact a3 z z1
theorem dataLe_pair (x y : Int × Int) : dataLe false id (pairD x) (pairD y) = decide (x.1 < y.1 ∨ (x.1 = y.1 ∧ x.2 ≤ y.2)) :=
  congrFun (congrFun (PySem.W.dataLe_ii (β := Int × Int) (fun b => b.1) (fun b => b.2)) x) y
theorem keyD_pair (q : Int × Int) : keyD (pairD q) = true ∧ (pairD q).depth ≤ 8 ∧ (nk (pairD q)).depth ≤ 8 := ⟨rfl, by simp [pairD, PyData.depth, PyData.depthAll], by simp [pairD, nk, nks, NestedKey.depth, NestedKey.depthAll]⟩
theorem alike_pair (ps : List (Int × Int)) : AllAlike (ps.map pairD) := PySem.W.AllAlike.of fun b b' => by simp [pairD, PySem.W.alikeAll, PySem.W.alike]
theorem sortable_pair (ps : List (Int × Int)) : Sortable (ps.map pairD) := PySem.W.Sortable.tuples fun b => ⟨_, _, rfl⟩
theorem cr_sortedDT {k : Nat} (hr : Room k X.A) : CallR X (.builtin "sorted") (rSortedDT X.K) := by
  intro pins s σ H vs us Q I r h
  obtain ⟨a, kvs, ps, rfl, ha, hkv, hfew, q⟩ := h
  have hu := hr.un
  rw [Vals.ref1 r]
  obtain ⟨z, lo, ks, pr, o, es, ep, ho, hx, hdt, he, hn⟩ := I.hok a _ ha
  obtain ⟨zs, a1, a2, a3⟩ := dict_trips ps pr hkv
  have l1 : es.size = ks.length := size_of_entries he
  have l2 : ks.length = zs.length := by
    have e := congrArg List.length a1
    rwa [List.length_map, List.length_map] at e
  have l3 : ps.length = zs.length := by rw [a2, List.length_map]
  refine sorted_from (R := fun u d => ∃ z : Addr × (Int × Int), (H z.1 = some (.tup [.int z.2.1, .int z.2.2]) ∧ d = pairD z.2) ∧ u = .ref z.1) (G := fun s' vs => ∃ h' tk, s' = { s with heap := h', toks := tk } ∧ (∀ b o, s.heap.get? b = some o → h'.get? b = some o) ∧ vs = zs.map fun z => Value.ref z.1) (by omega)
    (fun Q' hQ' => PySem.W.kdu_collect (A := X.A.in1) (kdl_raw lo hx hdt) hr.hd ho (by rw [sizeLine_eq]; omega) fun h' tk acc hk hacc => hQ' _ _ ⟨h', tk, rfl, hk, ?_⟩) ?_
  · rw [← a1]
    have hl : acc.toList.length = ks.length := by rw [Array.length_toList, hacc.1]; exact l1
    apply List.ext_getElem?
    intro j
    rw [List.getElem?_map]
    cases hj : acc.toList[j]? with
    | none =>
      have h1 := List.getElem?_eq_none_iff.mp hj
      rw [List.getElem?_eq_none (by omega)] <;> rfl
    | some v =>
      obtain ⟨en, hen, hv⟩ := hacc.2 j v (by rw [← Array.getElem?_toList]; exact hj)
      have qe := entry_at he j
      rw [hen] at qe
      cases hb : ks[j]? with
      | none =>
        rw [hb] at qe
        exact nomatch (show some en = none from qe)
      | some b =>
        rw [hb] at qe
        have e2 : en = entryOfKey (tupleKind (mixKind X.prog X.w)) b := Option.some.inj qe
        rw [hv, e2] <;> rfl
  · rintro s' vs ⟨h', tk, rfl, hk, rfl⟩
    have I1 : L2.Inv X pins σ H { s with heap := h', toks := tk } := I.kept hk
    have each : ∀ {R : Value → PyData → Prop} (zs : List (Addr × (Int × Int))), (∀ z ∈ zs, R (.ref z.1) (pairD z.2)) → EachIs R (zs.map fun z => Value.ref z.1) ((zs.map (·.2)).map pairD) := by
      intro R zs
      induction zs with
      | nil => exact fun _ => .nil
      | cons z zs ih => exact fun h => .cons (h z List.mem_cons_self) (ih fun y hy => h y (List.mem_cons_of_mem _ hy))
    refine ⟨ps.map pairD, ⟨by rw [a2]; exact each zs fun z hz => ⟨z, ⟨a3 z hz, rfl⟩, rfl⟩, by
      rw [a2]
      refine each zs fun z hz => ?_
      exact Dp.reads I1 (pairD z.2) (.ref z.1) _ (.tup (SqT.of (a3 z hz)) (.cons (.int _) (.cons (.int _) .nil))) rfl, fun b hb => ?_, alike_pair ps, sortable_pair ps, by rw [List.length_map]; exact hfew⟩, fun out c h2 k2 hp hE => ?_⟩
    · obtain ⟨z, _, rfl⟩ := List.mem_map.mp hb
      exact ⟨(keyD_pair z).1, (keyD_pair z).2.1⟩
    · rw [← List.map_mergeSort (r := fun x y => decide (x.1 < y.1 ∨ (x.1 = y.1 ∧ x.2 ≤ y.2))) (fun x _ y _ => (dataLe_pair x y).symm)] at hE
      have back : ∀ {us : List Value} {qs : List (Int × Int)}, EachIs (fun u d => ∃ z : Addr × (Int × Int), (H z.1 = some (.tup [.int z.2.1, .int z.2.2]) ∧ d = pairD z.2) ∧ u = .ref z.1) us (qs.map pairD) →
          ∃ ys : List (Addr × (Int × Int)), ys.map (·.2) = qs ∧ (∀ z ∈ ys, H z.1 = some (.tup [.int z.2.1, .int z.2.2])) ∧ us = ys.map fun z => Value.ref z.1 := by
        intro us qs
        induction qs generalizing us with
        | nil =>
          intro h
          cases h
          exact ⟨[], rfl, fun z h => (by cases h), rfl⟩
        | cons p qs ih =>
          intro h
          cases h with
          | cons h t =>
            obtain ⟨z, ⟨b1, b2⟩, rfl⟩ := h
            obtain ⟨ys, c1, c2, rfl⟩ := ih t
            have e : z.2 = p := by
              have e' : PyData.tuple [.int p.1, .int p.2] = .tuple [.int z.2.1, .int z.2.2] := b2
              simp only [PyData.tuple.injEq, List.cons.injEq, PyData.int.injEq, and_true] at e'
              exact Prod.ext e'.1.symm e'.2.symm
            refine ⟨z :: ys, by rw [List.map_cons, e, c1], fun y hy => ?_, rfl⟩
            rcases List.mem_cons.mp hy with w | w
            · rw [w]
              exact b1
            · exact c2 y w
      obtain ⟨ys, c1, c2, c3⟩ := back hE
      have hn : H h'.objs.size = none := I1.hok.fresh (Nat.le_refl _)
      have hvals : ∀ ys : List (Addr × (Int × Int)), Vals (ys.map fun z => V.ref z.1) (ys.map fun z => Value.ref z.1) := by
        intro ys
        induction ys with
        | nil => exact .nil
        | cons y ys ih => exact .cons rfl ih
      have hlen : (ys.map fun z => V.ref z.1).length ≤ sizeLine := by
        have e := congrArg List.length c1
        rw [List.length_map, List.length_mergeSort] at e
        rw [List.length_map, e, sizeLine_eq]
        omega
      exact ⟨.ref h'.objs.size, _, I1.laid (t' := tk) (o := .lst (ys.map fun z => V.ref z.1)) k2 (Nat.le_refl _) ⟨hlen, out.toList, c, by rw [c3]; exact hvals ys, by rw [Array.toArray_toList]; exact hp⟩, rfl, q ys _ c2 c1 hn⟩
end
end Sh

set_option maxHeartbeats 4000000
/-! Layer I: what is sorted, told by data. -/
namespace Sh
open PySem PySem.Spec PyProof.Rows L2
open PySem.W (EachIs AllAlike Sortable dataLe)

/-! ### ascending, each once -/
section
variable {α : Type}
structure TotL (lt : α → α → Bool) : Prop where
  irr : ∀ x, lt x x = false
  tr : ∀ x y z, lt x y = true → lt y z = true → lt x z = true
  tri : ∀ x y, lt x y = false → lt y x = false → x = y
def insC (lt : α → α → Bool) (x : α) : List α → List α
  | [] => [x]
  | y :: l => if lt x y then x :: y :: l else if lt y x then y :: insC lt x l else y :: l
def canonC (lt : α → α → Bool) (l : List α) : List α := l.foldr (insC lt) []
abbrev Asc (lt : α → α → Bool) (l : List α) : Prop := l.Pairwise fun x y => lt x y = true
variable {lt : α → α → Bool}
theorem mem_insC (T : TotL lt) {x y : α} : ∀ l, y ∈ insC lt x l ↔ y = x ∨ y ∈ l
  | [] => by simp [insC]
  | z :: l => by
    unfold insC
    split
    · simp
    · split
      · rw [List.mem_cons, mem_insC T l, List.mem_cons]
        constructor
        · rintro (h | h | h) <;> simp [h]
        · rintro (h | h | h) <;> simp [h]
      · rename_i h1 h2
        have e := T.tri x z (by simpa using h1) (by simpa using h2)
        rw [List.mem_cons, e]
        constructor
        · rintro (h | h) <;> simp [h]
        · rintro (h | h | h) <;> simp [h]
theorem asc_insC (T : TotL lt) {x : α} : ∀ l, Asc lt l → Asc lt (insC lt x l)
  | [], _ => by simp [insC, Asc]
  | z :: l, h => by
    obtain ⟨h1, h2⟩ := List.pairwise_cons.mp h
    unfold insC
    split
    · rename_i c
      refine List.pairwise_cons.mpr ⟨fun y hy => ?_, h⟩
      rcases List.mem_cons.mp hy with e | hy
      · rw [e]
        exact c
      · exact T.tr x z y c (h1 y hy)
    · split
      · rename_i _ c
        refine List.pairwise_cons.mpr ⟨fun y hy => ?_, asc_insC T l h2⟩
        rcases (mem_insC T l).mp hy with e | hy
        · rw [e]
          exact c
        · exact h1 y hy
      · exact h
theorem mem_canonC (T : TotL lt) {y : α} : ∀ l, y ∈ canonC lt l ↔ y ∈ l
  | [] => by simp [canonC]
  | x :: l => by
    show y ∈ insC lt x (canonC lt l) ↔ _
    rw [mem_insC T, mem_canonC T l, List.mem_cons]
theorem asc_canonC (T : TotL lt) : ∀ l, Asc lt (canonC lt l)
  | [] => List.Pairwise.nil
  | x :: l => asc_insC T _ (asc_canonC T l)
theorem asc_uniq (T : TotL lt) : ∀ l l' : List α, Asc lt l → Asc lt l' → (∀ x, x ∈ l ↔ x ∈ l') → l = l'
  | [], [], _, _, _ => rfl
  | [], y :: l', _, _, h => absurd ((h y).mpr List.mem_cons_self) (by simp)
  | x :: l, [], _, _, h => absurd ((h x).mp List.mem_cons_self) (by simp)
  | x :: l, y :: l', h1, h2, h => by
    obtain ⟨a1, a2⟩ := List.pairwise_cons.mp h1
    obtain ⟨b1, b2⟩ := List.pairwise_cons.mp h2
    have no : ∀ {u v}, lt u v = true → lt v u = true → False := fun {u v} p q => by
      have := T.tr u v u p q
      rw [T.irr] at this
      cases this
    have exy : x = y := by
      rcases List.mem_cons.mp ((h x).mp List.mem_cons_self) with e | e
      · exact e
      · rcases List.mem_cons.mp ((h y).mpr List.mem_cons_self) with e' | e'
        · exact e'.symm
        · exact (no (b1 x e) (a1 y e')).elim
    subst exy
    have nin : ∀ {z} {t : List α}, (∀ y ∈ t, lt x y = true) → z ∈ t → z ≠ x := fun {z t} p q e => by
      have := p z q
      rw [e, T.irr] at this
      cases this
    rw [asc_uniq T l l' a2 b2 fun z => ⟨fun hz => by
      rcases List.mem_cons.mp ((h z).mp (List.mem_cons_of_mem _ hz)) with e | e
      · exact absurd e (nin a1 hz)
      · exact e, fun hz => by
      rcases List.mem_cons.mp ((h z).mpr (List.mem_cons_of_mem _ hz)) with e | e
      · exact absurd e (nin b1 hz)
      · exact e⟩]
theorem canon_of_asc (T : TotL lt) {l l' : List α} (h1 : Asc lt l') (h2 : ∀ x, x ∈ l' ↔ x ∈ l) : l' = canonC lt l :=
  asc_uniq T _ _ h1 (asc_canonC T l) fun x => (h2 x).trans (mem_canonC T l).symm
theorem asc_sort (T : TotL lt) (D : List α) (hn : D.Nodup) : Asc lt (D.mergeSort fun x y => !lt y x) := by
  have s := List.pairwise_mergeSort (le := fun x y => !lt y x) (fun a b c p q => by
      simp only [Bool.not_eq_true'] at p q ⊢
      cases h : lt c a with
      | false => rfl
      | true =>
        cases h1 : lt a b with
        | true =>
          rw [T.tr c a b h h1] at q
          cases q
        | false =>
          have e := T.tri a b h1 p
          rw [e] at h
          rw [h] at q
          cases q) (fun a b => by
      cases h : lt b a with
      | false => rfl
      | true =>
        cases h1 : lt a b with
        | false => rfl
        | true =>
          have := T.tr b a b h h1
          rw [T.irr] at this
          cases this) D
  have hp := List.mergeSort_perm D fun x y => !lt y x
  have nd := hp.nodup_iff.mpr hn
  refine List.Pairwise.imp₂ (fun x y p q => ?_) s nd
  cases h : lt x y with
  | true => rfl
  | false => exact absurd (T.tri x y h (by simpa using p)) q
theorem sort_canon (T : TotL lt) {D l : List α} (hn : D.Nodup) (hm : ∀ x, x ∈ D ↔ x ∈ l) : (D.mergeSort fun x y => !lt y x) = canonC lt l :=
  canon_of_asc T (asc_sort T D hn) fun x => (List.mergeSort_perm D _).mem_iff.trans (hm x)
end

/-! ### texts, pairs -/
def ltS (x y : Str) : Bool := decide (x.cps.toList < y.cps.toList)
def ltP (x y : Int × Int) : Bool := decide (x.1 < y.1 ∨ (x.1 = y.1 ∧ x.2 < y.2))
theorem str_ext {x y : Str} (h : x.cps.toList = y.cps.toList) : x = y := by
  obtain ⟨a⟩ := x
  obtain ⟨b⟩ := y
  have e : a = b := Array.toList_inj.mp h
  rw [e]
theorem totS : TotL ltS where
  irr := fun x => by simp [ltS]
  tr := fun x y z h1 h2 => by
    simp only [ltS, decide_eq_true_eq] at h1 h2 ⊢
    exact List.lt_trans h1 h2
  tri := fun x y h1 h2 => by
    simp only [ltS, decide_eq_false_iff_not, List.not_lt] at h1 h2
    exact str_ext (List.le_antisymm h2 h1)
theorem totP : TotL ltP where
  irr := fun x => by simp [ltP]
  tr := fun x y z h1 h2 => by
    simp only [ltP, decide_eq_true_eq] at h1 h2 ⊢
    omega
  tri := fun x y h1 h2 => by
    simp only [ltP, decide_eq_false_iff_not] at h1 h2
    exact Prod.ext (by omega) (by omega)
structure EncL {α : Type} (enc : α → PyData) (lt : α → α → Bool) : Prop where
  tot : TotL lt
  inj : ∀ a b, enc a = enc b → a = b
  key : ∀ a, keyD (enc a) = true ∧ (enc a).depth ≤ 8 ∧ (nk (enc a)).depth ≤ 8
  kind : (∀ a, ∃ x, enc a = .str x) ∨ (∀ a, ∃ x r, enc a = .tuple (x :: r))
  alike : ∀ a b, PySem.W.alike (enc a) (enc b) = true
  le : ∀ a b, dataLe false id (enc a) (enc b) = !lt b a
theorem encS : EncL PyData.str ltS where
  tot := totS
  inj := fun a b e => by
    injection e
  key := fun a => ⟨rfl, by simp [PyData.depth], by simp [nk, NestedKey.depth]⟩
  kind := .inl fun a => ⟨a, rfl⟩
  alike := fun a b => by simp [PySem.W.alike]
  le := fun a b => by
    show (!PySem.W.dataLt (.str b) (.str a)) = _
    rw [PySem.W.dataLt_str] <;> rfl
theorem encP : EncL pairD ltP where
  tot := totP
  inj := fun a b e => by
    have e' : PyData.tuple [.int a.1, .int a.2] = .tuple [.int b.1, .int b.2] := e
    simp only [PyData.tuple.injEq, List.cons.injEq, PyData.int.injEq, and_true] at e'
    exact Prod.ext e'.1 e'.2
  key := keyD_pair
  kind := .inr fun a => ⟨_, _, rfl⟩
  alike := fun a b => by simp [pairD, PySem.W.alikeAll, PySem.W.alike]
  le := fun a b => by
    show (!PySem.W.dataLt (.tuple [.int b.1, .int b.2]) (.tuple [.int a.1, .int a.2])) = _
    rw [PySem.W.dataLt_ii] <;> rfl
theorem KeyL.enc {α : Type} {enc : α → PyData} {lt : α → α → Bool} (N : EncL enc lt) {bs : List α} (h : bs.length < 64) : KeyL (bs.map enc) where
  few := by rwa [List.length_map]
  keys := fun d hd => by
    obtain ⟨a, _, rfl⟩ := List.mem_map.mp hd
    exact N.key a
  kind := by
    rcases N.kind with k | k
    · refine .inl fun d hd => ?_
      obtain ⟨a, _, rfl⟩ := List.mem_map.mp hd
      exact k a
    · refine .inr fun d hd => ?_
      obtain ⟨a, _, rfl⟩ := List.mem_map.mp hd
      obtain ⟨x, r, e⟩ := k a
      exact ⟨_, e⟩
theorem Sortable.enc {α : Type} {enc : α → PyData} {lt : α → α → Bool} (N : EncL enc lt) (bs : List α) : Sortable (bs.map enc) := by
  rcases N.kind with k | k
  · exact PySem.W.Sortable.others fun b => by
      obtain ⟨x, e⟩ := k b
      rw [e]
      exact ⟨fun z => (by cases z), fun xs z => (by cases z)⟩
  · exact PySem.W.Sortable.tuples k
theorem zip_rep {M : Addr → Prop} {H : Hp} : ∀ {xs : List V} {ds : List PyData} {z : V × PyData}, Rps M H xs ds → z ∈ xs.zip ds → Rp M H z.1 z.2
  | _, _, _, .nil, h => by cases h
  | _, _, z, .cons r t, h => by
    rcases List.mem_cons.mp (show z ∈ _ :: _ from h) with e | h
    · rw [e]
      exact r
    · exact zip_rep t h
theorem zip_reps {M : Addr → Prop} {H : Hp} : ∀ (zs : List (V × PyData)), (∀ z ∈ zs, Rp M H z.1 z.2) → Rps M H (zs.map (·.1)) (zs.map (·.2))
  | [], _ => .nil
  | z :: zs, h => .cons (h z List.mem_cons_self) (zip_reps zs fun y hy => h y (List.mem_cons_of_mem _ hy))
section
variable {c : Option Addr} {te : TE} {δ : List Ds} {K : PySem.W.Frag} {α : Type} {enc : α → PyData} {lt : α → α → Bool} {bs : List α}
theorem sort_enc (N : EncL enc lt) {D : List PyData} (hn : D.Nodup) (hm : ∀ d, d ∈ D ↔ d ∈ bs.map enc) : D.mergeSort (dataLe false id) = (canonC lt bs).map enc := by
  obtain ⟨D', rfl, hD⟩ := pick_all (f := enc) (S := bs) D fun d hd => by
    obtain ⟨b, h1, h2⟩ := List.mem_map.mp ((hm d).mp hd)
    exact ⟨b, h1, h2⟩
  have e : D'.mergeSort (fun x y => !lt y x) = canonC lt bs := sort_canon N.tot (nodup_of_map hn) fun x => ⟨hD x, fun hx => by
    obtain ⟨y, h1, h2⟩ := List.mem_map.mp ((hm (enc x)).mpr (List.mem_map.mpr ⟨x, hx, rfl⟩))
    rw [← N.inj _ _ h2]
    exact h1⟩
  rw [← e]
  exact (List.map_mergeSort (fun x _ y _ => (N.le x y).symm)).symm
theorem ev_sortedSet (N : EncL enc lt) (h : Ev c te δ fun d => d = .list (bs.map enc) ∨ d = .tuple (bs.map enc)) (hb : bs.length < 64) : EvD c (tSS K te) δ (.list ((canonC lt bs).map enc)) := fun M σ H w s Q q => by
  refine h M σ H w s _ fun v d H1 e1 w1 r1 hd => ?_
  have go : ∀ (l : Addr) (xs : List V), SqA K H1 l xs → Rps M H1 xs (bs.map enc) → v = .ref l → ∃ (l : Addr) (xs : List V) (ds : List PyData), v = .ref l ∧ SqA K H1 l xs ∧ DpAll K H1 xs ds ∧ KeyL ds ∧ AllAlike ds ∧ Sortable ds ∧
      ∀ (zs : List (V × PyData)) (p : Addr) (D : List PyData), (∀ z ∈ zs, z ∈ xs.zip ds) → D.Nodup → (∀ d, d ∈ D ↔ d ∈ ds) → zs.map (·.2) = D.mergeSort (dataLe false id) → H1 p = none → Q (.ref p) (upd H1 p (.lst (zs.map (·.1)))) := fun l xs hs ha ev => by
    refine ⟨l, xs, bs.map enc, ev, hs, Rps.dp _ ha, KeyL.enc N hb, PySem.W.AllAlike.of N.alike, Sortable.enc N bs, fun zs p D h1 h2 h3 h4 h5 => ?_⟩
    have hx : Ex none H1 (upd H1 p (.lst (zs.map (·.1)))) := Ex.new h5
    have hr : Rps M H1 (zs.map (·.1)) (zs.map (·.2)) := zip_reps zs fun z hz => zip_rep ha (h1 z hz)
    rw [h4, sort_enc N h2 h3] at hr
    exact q _ _ _ (e1.trans hx.wide) (w1.ex hx) (.lst (w1.fresh h5) upd_same (hr.ex w1 hx.wide)) rfl
  rcases hd with e | e
  · subst e
    cases r1 with
    | lst n e sa => exact go _ _ (.inl (SqL.of e)) sa rfl
  · subst e
    cases r1 with
    | tup n e sa => exact go _ _ (.inr (SqT.of e)) sa rfl
theorem ev_lenSet {ds : List PyData} (h : EvD c te δ (.tuple ds)) (kl : KeyL ds) (hn : ds.Nodup) : EvD c (tLS K te) δ (.int ds.length) := fun M σ H w s Q q => by
  refine h M σ H w s _ fun v d H1 e1 w1 r1 hd => ?_
  subst hd
  cases r1 with
  | tup n e sa => exact ⟨_, _, ds, rfl, .inr (SqT.of e), Rps.dp _ sa, kl, hn, q _ _ H1 e1 w1 (.int _) rfl⟩
end
end Sh

set_option maxHeartbeats 4000000
/-! Layer P: grammars and items in plain words. -/
namespace Sh
open PySem PySem.Spec PyProof.Rows L2

/-! ### signs, names -/
def smallZ : Str := "abcdefghijklmnopqrstuvwxyz"
def capZ : Str := "ABCDEFGHIJKLMNOPQRSTUVWXYZ"
def figZ : Str := "0123456789"
/-- a sign is one of a text's -/
abbrev inZ (k : Nat) (z : Str) : Bool := decide (k ∈ z.cps.toList)
def headZ (x : Str) (z : Str) : Bool := match x.cps.toList with
  | [] => false
  | k :: _ => inZ k z
/-- what is_name says -/
def nmB (x : Str) : Bool := decide (1 ≤ x.cps.toList.length) && (decide (x.cps.toList.length ≤ 20) && (!headZ x figZ && x.cps.toList.all fun k => inZ k smallZ || (inZ k capZ || inZ k figZ)))
def tmB (x : Str) : Bool := nmB x && headZ x smallZ
def ntB (x : Str) : Bool := nmB x && headZ x capZ

/-! ### grammars -/
abbrev Rule : Type := Str × List Str
structure G where
  terms : List Str
  start : Str
  rules : List Rule
def encR (r : Rule) : PyData := .tuple [.str r.1, .tuple (r.2.map .str)]
def encG (g : G) : PyData := .tuple [.tuple (g.terms.map .str), .str g.start, .tuple (g.rules.map encR)]
def ruleB (r : Rule) : Bool := ntB r.1 && (decide (r.2.length ≤ 4) && r.2.all nmB)
def ascB {α : Type} (lt : α → α → Bool) : List α → Bool
  | [] => true
  | x :: l => l.all (fun y => lt x y) && ascB lt l
theorem ascB_asc {α : Type} {lt : α → α → Bool} : ∀ {l : List α}, ascB lt l = true → Asc lt l
  | [], _ => List.Pairwise.nil
  | x :: l, h => by
    rw [ascB, Bool.and_eq_true, List.all_eq_true] at h
    exact List.pairwise_cons.mpr ⟨h.1, ascB_asc h.2⟩
def nodB : List Rule → Bool
  | [] => true
  | x :: l => !(l.any fun y => decide (x = y)) && nodB l
theorem nodB_nodup : ∀ {l : List Rule}, nodB l = true → l.Nodup
  | [], _ => List.nodup_nil
  | x :: l, h => by
    rw [nodB, Bool.and_eq_true, Bool.not_eq_true', List.any_eq_false] at h
    refine List.nodup_cons.mpr ⟨fun hx => ?_, nodB_nodup h.2⟩
    have := h.1 x hx
    simp at this
def symB (g : G) (x : Str) : Bool := decide (x ∈ g.rules.map (·.1)) || decide (x ∈ g.terms)
/-- a grammar as the law's makers give it -/
def valid (g : G) : Bool :=
  (decide (1 ≤ g.terms.length) && decide (g.terms.length ≤ 30)) && ((decide (1 ≤ g.rules.length) && decide (g.rules.length ≤ 12)) && (g.terms.all tmB && (ascB ltS g.terms && (g.rules.all ruleB && (nodB g.rules && (decide (g.start ∈ g.rules.map (·.1)) && g.rules.all fun r => r.2.all fun x => symB g x))))))
structure Valid (g : G) : Prop where
  t1 : 1 ≤ g.terms.length
  t2 : g.terms.length ≤ 30
  r1 : 1 ≤ g.rules.length
  r2 : g.rules.length ≤ 12
  tm : ∀ x ∈ g.terms, tmB x = true
  asc : Asc ltS g.terms
  rule : ∀ r ∈ g.rules, ruleB r = true
  nd : g.rules.Nodup
  st : g.start ∈ g.rules.map (·.1)
  sym : ∀ r ∈ g.rules, ∀ x ∈ r.2, symB g x = true
theorem valid_ok {g : G} (h : valid g = true) : Valid g := by
  unfold valid at h
  simp only [Bool.and_eq_true, decide_eq_true_eq, List.all_eq_true] at h
  obtain ⟨⟨a, b⟩, ⟨c, d⟩, e, f, i, j, k, l⟩ := h
  exact ⟨a, b, c, d, e, ascB_asc f, i, nodB_nodup j, k, l⟩
theorem ruleB_ok {r : Rule} (h : ruleB r = true) : ntB r.1 = true ∧ r.2.length ≤ 4 ∧ ∀ x ∈ r.2, nmB x = true := by
  unfold ruleB at h
  simp only [Bool.and_eq_true, decide_eq_true_eq, List.all_eq_true] at h
  exact h
theorem tm_nm {x : Str} (h : tmB x = true) : nmB x = true := (Bool.and_eq_true_iff.mp h).1
theorem nt_nm {x : Str} (h : ntB x = true) : nmB x = true := (Bool.and_eq_true_iff.mp h).1
theorem nmB_ok {x : Str} (h : nmB x = true) : ∃ k l, x.cps.toList = k :: l ∧ (k :: l).length ≤ 20 ∧ inZ k figZ = false ∧ ∀ j ∈ k :: l, (inZ j smallZ || (inZ j capZ || inZ j figZ)) = true := by
  unfold nmB headZ at h
  cases e : x.cps.toList with
  | nil =>
    rw [e] at h
    simp at h
  | cons k l =>
    rw [e] at h
    simp only [Bool.and_eq_true, decide_eq_true_eq, List.all_eq_true, Bool.not_eq_true'] at h
    exact ⟨k, l, rfl, h.2.1, h.2.2.1, h.2.2.2⟩
theorem encR_key (r : Rule) : keyD (encR r) = true ∧ (encR r).depth ≤ 8 ∧ (nk (encR r)).depth ≤ 8 := by
  have k1 : ∀ l : List Str, keyDs (l.map PyData.str) = true := fun l => by
    induction l with
    | nil => rfl
    | cons x l ih => exact ih
  have k2 : ∀ l : List Str, PyData.depthAll (l.map PyData.str) = 0 := fun l => by
    induction l with
    | nil => simp [PyData.depthAll]
    | cons x l ih => rw [List.map_cons, PyData.depthAll, ih] <;> simp [PyData.depth]
  have k3 : ∀ l : List Str, NestedKey.depthAll (nks (l.map PyData.str)) = 0 := fun l => by
    induction l with
    | nil => rfl
    | cons x l ih =>
      show max 0 (NestedKey.depthAll (nks (l.map PyData.str))) = 0
      rw [ih] <;> rfl
  refine ⟨?_, ?_, ?_⟩
  · show (true && (keyDs (r.2.map PyData.str) && true)) = true
    rw [k1] <;> rfl
  · simp only [encR, PyData.depth, PyData.depthAll, k2]
    omega
  · show NestedKey.depth (.tup [.text r.1, .tup (nks (r.2.map PyData.str))]) ≤ 8
    simp only [NestedKey.depth, NestedKey.depthAll, k3]
    omega
theorem strs_inj : ∀ {l l' : List Str}, l.map PyData.str = l'.map PyData.str → l = l'
  | [], [], _ => rfl
  | [], _ :: _, h => by simp at h
  | _ :: _, [], h => by simp at h
  | x :: l, y :: l', h => by
    rw [List.map_cons, List.map_cons] at h
    injection h with a b
    injection a with a
    rw [a, strs_inj b]
theorem encR_inj {r s : Rule} (h : encR r = encR s) : r = s := by
  have h' : PyData.tuple [.str r.1, .tuple (r.2.map .str)] = .tuple [.str s.1, .tuple (s.2.map .str)] := h
  simp only [PyData.tuple.injEq, List.cons.injEq, PyData.str.injEq, and_true] at h'
  exact Prod.ext h'.1 (strs_inj h'.2)

/-! ### items -/
abbrev Item : Type := Int × Int
/-- the right side of rule n, -1 being the start's -/
def rightI (g : G) (n : Int) : List Str := if n < 0 then [g.start] else ((g.rules[n.toNat]?).map (·.2)).getD []
def behindI (g : G) (i : Item) : Option Str := (rightI g i.1)[i.2.toNat]?
def itemOk (g : G) (i : Item) : Prop := -1 ≤ i.1 ∧ i.1 < g.rules.length ∧ 0 ≤ i.2 ∧ i.2 ≤ (rightI g i.1).length
instance (g : G) (i : Item) : Decidable (itemOk g i) := by unfold itemOk; infer_instance
/-- all items, in order -/
def allI (g : G) : List Item := (List.range (g.rules.length + 1)).flatMap fun (r : Nat) => (List.range ((rightI g ((r : Int) - 1)).length + 1)).map fun (p : Nat) => ((r : Int) - 1, (p : Int))
/-- the rules with a left side -/
def rulesI (g : G) (x : Str) : List Int := ((List.range g.rules.length).filter fun r => decide ((g.rules[r]?).map (·.1) = some x)).map fun (r : Nat) => (r : Int)
def optD : Option Str → PyData
  | none => .none
  | some x => .str x
end Sh

set_option maxHeartbeats 4000000
/-! Layer T: the text by places. -/
namespace Sh
open PySem PySem.Spec PyProof.Rows L2
def topS (i : Nat) : Stmt := PySem.Challenge.pw_shiftroads_k31_whole_items_and_closed_it.main.body.getD i (.Pass ⟨0, 0, 0, 0⟩)
abbrev s_is_whole : Stmt := topS 13
abbrev N_is_whole : List Str := ["value", "low", "high"]
theorem sc_is_whole : FnScope N_is_whole ["value", "low", "high"] (defScope s_is_whole) := ⟨rfl, rfl, rfl, by decide +kernel, rfl, by decide +kernel, by decide +kernel⟩
-- slots: 0 value, 1 low, 2 high
abbrev s_is_tuple_of : Stmt := topS 14
abbrev N_is_tuple_of : List Str := ["value", "low", "high"]
theorem sc_is_tuple_of : FnScope N_is_tuple_of ["value", "low", "high"] (defScope s_is_tuple_of) := ⟨rfl, rfl, rfl, by decide +kernel, rfl, by decide +kernel, by decide +kernel⟩
-- slots: 0 value, 1 low, 2 high
abbrev s_is_name : Stmt := topS 15
abbrev N_is_name : List Str := ["value", "sign"]
theorem sc_is_name : FnScope N_is_name ["value"] (defScope s_is_name) := ⟨rfl, rfl, rfl, by decide +kernel, rfl, by decide +kernel, by decide +kernel⟩
-- slots: 0 value, 1 sign
abbrev s_is_terminal_name : Stmt := topS 16
abbrev N_is_terminal_name : List Str := ["value"]
theorem sc_is_terminal_name : FnScope N_is_terminal_name ["value"] (defScope s_is_terminal_name) := ⟨rfl, rfl, rfl, by decide +kernel, rfl, by decide +kernel, by decide +kernel⟩
-- slots: 0 value
abbrev s_is_nonterminal_name : Stmt := topS 17
abbrev N_is_nonterminal_name : List Str := ["value"]
theorem sc_is_nonterminal_name : FnScope N_is_nonterminal_name ["value"] (defScope s_is_nonterminal_name) := ⟨rfl, rfl, rfl, by decide +kernel, rfl, by decide +kernel, by decide +kernel⟩
-- slots: 0 value
abbrev s_ascends : Stmt := topS 18
abbrev N_ascends : List Str := ["items", "one", "other"]
theorem sc_ascends : FnScope N_ascends ["items"] (defScope s_ascends) := ⟨rfl, rfl, rfl, by decide +kernel, rfl, by decide +kernel, by decide +kernel⟩
-- slots: 0 items, 1 one, 2 other
abbrev s_lefts_of : Stmt := topS 19
abbrev N_lefts_of : List Str := ["rules", "left", "right"]
theorem sc_lefts_of : FnScope N_lefts_of ["rules"] (defScope s_lefts_of) := ⟨rfl, rfl, rfl, by decide +kernel, rfl, by decide +kernel, by decide +kernel⟩
-- slots: 0 rules, 1 left, 2 right
abbrev s_fits_rule : Stmt := topS 20
abbrev N_fits_rule : List Str := ["value", "symbol"]
theorem sc_fits_rule : FnScope N_fits_rule ["value"] (defScope s_fits_rule) := ⟨rfl, rfl, rfl, by decide +kernel, rfl, by decide +kernel, by decide +kernel⟩
-- slots: 0 value, 1 symbol
abbrev s_fits_grammar : Stmt := topS 21
abbrev N_fits_grammar : List Str := ["value", "lefts", "left", "right", "symbol", "one", "rule"]
theorem sc_fits_grammar : FnScope N_fits_grammar ["value"] (defScope s_fits_grammar) := ⟨rfl, rfl, rfl, by decide +kernel, rfl, by decide +kernel, by decide +kernel⟩
-- slots: 0 value*, 1 lefts*, 2 left, 3 right, 4 symbol, 5 one, 6 rule
abbrev s_rules_for : Stmt := topS 22
abbrev N_rules_for : List Str := ["grammar", "nonterminal", "at", "rule"]
theorem sc_rules_for : FnScope N_rules_for ["grammar", "nonterminal"] (defScope s_rules_for) := ⟨rfl, rfl, rfl, by decide +kernel, rfl, by decide +kernel, by decide +kernel⟩
-- slots: 0 grammar, 1 nonterminal*, 2 at, 3 rule
abbrev s_need_grammar : Stmt := topS 23
abbrev N_need_grammar : List Str := ["value"]
theorem sc_need_grammar : FnScope N_need_grammar ["value"] (defScope s_need_grammar) := ⟨rfl, rfl, rfl, by decide +kernel, rfl, by decide +kernel, by decide +kernel⟩
-- slots: 0 value
abbrev s_right_of : Stmt := topS 26
abbrev N_right_of : List Str := ["grammar", "rule"]
theorem sc_right_of : FnScope N_right_of ["grammar", "rule"] (defScope s_right_of) := ⟨rfl, rfl, rfl, by decide +kernel, rfl, by decide +kernel, by decide +kernel⟩
-- slots: 0 grammar, 1 rule
abbrev s_symbol_behind : Stmt := topS 27
abbrev N_symbol_behind : List Str := ["grammar", "item", "right"]
theorem sc_symbol_behind : FnScope N_symbol_behind ["grammar", "item"] (defScope s_symbol_behind) := ⟨rfl, rfl, rfl, by decide +kernel, rfl, by decide +kernel, by decide +kernel⟩
-- slots: 0 grammar, 1 item, 2 right
abbrev s_fits_item : Stmt := topS 28
abbrev N_fits_item : List Str := ["grammar", "value"]
theorem sc_fits_item : FnScope N_fits_item ["grammar", "value"] (defScope s_fits_item) := ⟨rfl, rfl, rfl, by decide +kernel, rfl, by decide +kernel, by decide +kernel⟩
-- slots: 0 grammar, 1 value
abbrev s_fits_items : Stmt := topS 29
abbrev N_fits_items : List Str := ["grammar", "value", "one"]
theorem sc_fits_items : FnScope N_fits_items ["grammar", "value"] (defScope s_fits_items) := ⟨rfl, rfl, rfl, by decide +kernel, rfl, by decide +kernel, by decide +kernel⟩
-- slots: 0 grammar*, 1 value, 2 one
abbrev s_all_items : Stmt := topS 30
abbrev N_all_items : List Str := ["grammar", "rules", "rule", "place"]
theorem sc_all_items : FnScope N_all_items ["grammar"] (defScope s_all_items) := ⟨rfl, rfl, rfl, by decide +kernel, rfl, by decide +kernel, by decide +kernel⟩
-- slots: 0 grammar*, 1 rules, 2 rule, 3 place
abbrev s_closed_by : Stmt := topS 31
abbrev N_closed_by : List Str := ["grammar", "items", "found", "line", "item", "rule"]
theorem sc_closed_by : FnScope N_closed_by ["grammar", "items"] (defScope s_closed_by) := ⟨rfl, rfl, rfl, by decide +kernel, rfl, by decide +kernel, by decide +kernel⟩
-- slots: 0 grammar, 1 items, 2 found, 3 line, 4 item, 5 rule
abbrev s_need_items : Stmt := topS 32
abbrev N_need_items : List Str := ["grammar", "value"]
theorem sc_need_items : FnScope N_need_items ["grammar", "value"] (defScope s_need_items) := ⟨rfl, rfl, rfl, by decide +kernel, rfl, by decide +kernel, by decide +kernel⟩
-- slots: 0 grammar, 1 value
abbrev s_items_of : Stmt := topS 33
abbrev N_items_of : List Str := ["grammar"]
theorem sc_items_of : FnScope N_items_of ["grammar"] (defScope s_items_of) := ⟨rfl, rfl, rfl, by decide +kernel, rfl, by decide +kernel, by decide +kernel⟩
-- slots: 0 grammar
abbrev s_closed : Stmt := topS 34
abbrev N_closed : List Str := ["grammar", "items"]
theorem sc_closed : FnScope N_closed ["grammar", "items"] (defScope s_closed) := ⟨rfl, rfl, rfl, by decide +kernel, rfl, by decide +kernel, by decide +kernel⟩
-- slots: 0 grammar, 1 items
abbrev s__law_cup : Stmt := topS 36
abbrev N__law_cup : List Str := ["_law_script", "_law_cell"]
theorem sc__law_cup : FnScope N__law_cup ["_law_script"] (defScope s__law_cup) := ⟨rfl, rfl, rfl, by decide +kernel, rfl, by decide +kernel, by decide +kernel⟩
-- slots: 0 _law_script, 1 _law_cell
abbrev s__law_roll : Stmt := topS 37
abbrev N__law_roll : List Str := ["_law_cup_here", "_law_many", "_law_found", "_law_deep"]
theorem sc__law_roll : FnScope N__law_roll ["_law_cup_here", "_law_many"] (defScope s__law_roll) := ⟨rfl, rfl, rfl, by decide +kernel, rfl, by decide +kernel, by decide +kernel⟩
-- slots: 0 _law_cup_here, 1 _law_many, 2 _law_found, 3 _law_deep
abbrev s__law_some : Stmt := topS 38
abbrev N__law_some : List Str := ["_law_cup_here", "_law_things"]
theorem sc__law_some : FnScope N__law_some ["_law_cup_here", "_law_things"] (defScope s__law_some) := ⟨rfl, rfl, rfl, by decide +kernel, rfl, by decide +kernel, by decide +kernel⟩
-- slots: 0 _law_cup_here, 1 _law_things
abbrev s__law_right : Stmt := topS 39
abbrev N__law_right : List Str := ["_law_grammar_here", "_law_rule"]
theorem sc__law_right : FnScope N__law_right ["_law_grammar_here", "_law_rule"] (defScope s__law_right) := ⟨rfl, rfl, rfl, by decide +kernel, rfl, by decide +kernel, by decide +kernel⟩
-- slots: 0 _law_grammar_here, 1 _law_rule
abbrev s__law_all_items : Stmt := topS 40
abbrev N__law_all_items : List Str := ["_law_grammar_here", "_law_found", "_law_rule", "_law_place"]
theorem sc__law_all_items : FnScope N__law_all_items ["_law_grammar_here"] (defScope s__law_all_items) := ⟨rfl, rfl, rfl, by decide +kernel, rfl, by decide +kernel, by decide +kernel⟩
-- slots: 0 _law_grammar_here, 1 _law_found, 2 _law_rule*, 3 _law_place
abbrev s__law_behind : Stmt := topS 41
abbrev N__law_behind : List Str := ["_law_grammar_here", "_law_item", "_law_right_here_here"]
theorem sc__law_behind : FnScope N__law_behind ["_law_grammar_here", "_law_item"] (defScope s__law_behind) := ⟨rfl, rfl, rfl, by decide +kernel, rfl, by decide +kernel, by decide +kernel⟩
-- slots: 0 _law_grammar_here, 1 _law_item, 2 _law_right_here_here
abbrev s__law_closed : Stmt := topS 42
abbrev N__law_closed : List Str := ["_law_grammar_here", "_law_items", "_law_found", "_law_turn", "_law_wanted", "_law_item", "_law_rule"]
theorem sc__law_closed : FnScope N__law_closed ["_law_grammar_here", "_law_items"] (defScope s__law_closed) := ⟨rfl, rfl, rfl, by decide +kernel, rfl, by decide +kernel, by decide +kernel⟩
-- slots: 0 _law_grammar_here*, 1 _law_items, 2 _law_found*, 3 _law_turn, 4 _law_wanted*, 5 _law_item, 6 _law_rule
abbrev s__law_named : Stmt := topS 43
abbrev N__law_named : List Str := ["_law_cup_here", "_law_many", "_law_pool", "_law_start", "_law_step", "_law_at"]
theorem sc__law_named : FnScope N__law_named ["_law_cup_here", "_law_many"] (defScope s__law_named) := ⟨rfl, rfl, rfl, by decide +kernel, rfl, by decide +kernel, by decide +kernel⟩
-- slots: 0 _law_cup_here, 1 _law_many, 2 _law_pool*, 3 _law_start*, 4 _law_step*, 5 _law_at
abbrev s__law_over : Stmt := topS 44
abbrev N__law_over : List Str := ["_law_rules", "_law_symbols", "_law_left", "_law_right_here_here", "_law_one"]
theorem sc__law_over : FnScope N__law_over ["_law_rules"] (defScope s__law_over) := ⟨rfl, rfl, rfl, by decide +kernel, rfl, by decide +kernel, by decide +kernel⟩
-- slots: 0 _law_rules, 1 _law_symbols, 2 _law_left, 3 _law_right_here_here, 4 _law_one
abbrev s__law_list_grammar : Stmt := topS 45
abbrev N__law_list_grammar : List Str := ["_law_cup_here", "_law_a", "_law_b", "_law_c", "_law_rules"]
theorem sc__law_list_grammar : FnScope N__law_list_grammar ["_law_cup_here"] (defScope s__law_list_grammar) := ⟨rfl, rfl, rfl, by decide +kernel, rfl, by decide +kernel, by decide +kernel⟩
-- slots: 0 _law_cup_here, 1 _law_a, 2 _law_b, 3 _law_c, 4 _law_rules
abbrev s__law_nest_grammar : Stmt := topS 46
abbrev N__law_nest_grammar : List Str := ["_law_cup_here", "_law_a", "_law_b", "_law_c"]
theorem sc__law_nest_grammar : FnScope N__law_nest_grammar ["_law_cup_here"] (defScope s__law_nest_grammar) := ⟨rfl, rfl, rfl, by decide +kernel, rfl, by decide +kernel, by decide +kernel⟩
-- slots: 0 _law_cup_here, 1 _law_a, 2 _law_b, 3 _law_c
abbrev s__law_level_grammar : Stmt := topS 47
abbrev N__law_level_grammar : List Str := ["_law_cup_here", "_law_a", "_law_b", "_law_c", "_law_d", "_law_e", "_law_rules", "_law_names", "_law_at", "_law_own", "_law_low", "_law_sign"]
theorem sc__law_level_grammar : FnScope N__law_level_grammar ["_law_cup_here"] (defScope s__law_level_grammar) := ⟨rfl, rfl, rfl, by decide +kernel, rfl, by decide +kernel, by decide +kernel⟩
-- slots: 0 _law_cup_here, 1 _law_a, 2 _law_b, 3 _law_c, 4 _law_d, 5 _law_e, 6 _law_rules, 7 _law_names, 8 _law_at, 9 _law_own, 10 _law_low, 11 _law_sign
abbrev s__law_two_sided_grammar : Stmt := topS 48
abbrev N__law_two_sided_grammar : List Str := ["_law_cup_here", "_law_a", "_law_b", "_law_c", "_law_some_here"]
theorem sc__law_two_sided_grammar : FnScope N__law_two_sided_grammar ["_law_cup_here"] (defScope s__law_two_sided_grammar) := ⟨rfl, rfl, rfl, by decide +kernel, rfl, by decide +kernel, by decide +kernel⟩
-- slots: 0 _law_cup_here, 1 _law_a, 2 _law_b, 3 _law_c, 4 _law_some_here
abbrev s__law_mirror_grammar : Stmt := topS 49
abbrev N__law_mirror_grammar : List Str := ["_law_cup_here", "_law_a", "_law_b", "_law_c", "_law_sides", "_law_one"]
theorem sc__law_mirror_grammar : FnScope N__law_mirror_grammar ["_law_cup_here"] (defScope s__law_mirror_grammar) := ⟨rfl, rfl, rfl, by decide +kernel, rfl, by decide +kernel, by decide +kernel⟩
-- slots: 0 _law_cup_here, 1 _law_a, 2 _law_b, 3 _law_c, 4 _law_sides, 5 _law_one
abbrev s__law_near_grammar : Stmt := topS 50
abbrev N__law_near_grammar : List Str := ["_law_cup_here", "_law_p", "_law_q", "_law_s", "_law_h"]
theorem sc__law_near_grammar : FnScope N__law_near_grammar ["_law_cup_here"] (defScope s__law_near_grammar) := ⟨rfl, rfl, rfl, by decide +kernel, rfl, by decide +kernel, by decide +kernel⟩
-- slots: 0 _law_cup_here, 1 _law_p, 2 _law_q, 3 _law_s, 4 _law_h
abbrev s__law_far_grammar : Stmt := topS 51
abbrev N__law_far_grammar : List Str := ["_law_cup_here", "_law_p", "_law_q", "_law_h", "_law_k", "_law_m", "_law_rules"]
theorem sc__law_far_grammar : FnScope N__law_far_grammar ["_law_cup_here"] (defScope s__law_far_grammar) := ⟨rfl, rfl, rfl, by decide +kernel, rfl, by decide +kernel, by decide +kernel⟩
-- slots: 0 _law_cup_here, 1 _law_p, 2 _law_q, 3 _law_h, 4 _law_k, 5 _law_m, 6 _law_rules
abbrev s__law_odd_grammar : Stmt := topS 52
abbrev N__law_odd_grammar : List Str := ["_law_cup_here", "_law_a", "_law_b", "_law_some_here"]
theorem sc__law_odd_grammar : FnScope N__law_odd_grammar ["_law_cup_here"] (defScope s__law_odd_grammar) := ⟨rfl, rfl, rfl, by decide +kernel, rfl, by decide +kernel, by decide +kernel⟩
-- slots: 0 _law_cup_here, 1 _law_a, 2 _law_b, 3 _law_some_here
abbrev s__law_known_grammar : Stmt := topS 53
abbrev N__law_known_grammar : List Str := ["_law_cup_here", "_law_way"]
theorem sc__law_known_grammar : FnScope N__law_known_grammar ["_law_cup_here"] (defScope s__law_known_grammar) := ⟨rfl, rfl, rfl, by decide +kernel, rfl, by decide +kernel, by decide +kernel⟩
-- slots: 0 _law_cup_here, 1 _law_way
abbrev s__law_random_grammar : Stmt := topS 54
abbrev N__law_random_grammar : List Str := ["_law_cup_here", "_law_terminals", "_law_lefts", "_law_rules", "_law_turn", "_law_right_here_here", "_law_rule", "_law_unlike", "_law_left", "_law_place"]
theorem sc__law_random_grammar : FnScope N__law_random_grammar ["_law_cup_here"] (defScope s__law_random_grammar) := ⟨rfl, rfl, rfl, by decide +kernel, rfl, by decide +kernel, by decide +kernel⟩
-- slots: 0 _law_cup_here*, 1 _law_terminals*, 2 _law_lefts*, 3 _law_rules, 4 _law_turn, 5 _law_right_here_here, 6 _law_rule, 7 _law_unlike, 8 _law_left, 9 _law_place
abbrev s__law_grammar : Stmt := topS 55
abbrev N__law_grammar : List Str := ["_law_cup_here"]
theorem sc__law_grammar : FnScope N__law_grammar ["_law_cup_here"] (defScope s__law_grammar) := ⟨rfl, rfl, rfl, by decide +kernel, rfl, by decide +kernel, by decide +kernel⟩
-- slots: 0 _law_cup_here
abbrev s__law_again : Stmt := topS 56
abbrev N__law_again : List Str := []
theorem sc__law_again : FnScope N__law_again [] (defScope s__law_again) := ⟨rfl, rfl, rfl, by decide +kernel, rfl, by decide +kernel, by decide +kernel⟩
-- slots: 
abbrev s__law_own_two : Stmt := topS 57
abbrev N__law_own_two : List Str := []
theorem sc__law_own_two : FnScope N__law_own_two [] (defScope s__law_own_two) := ⟨rfl, rfl, rfl, by decide +kernel, rfl, by decide +kernel, by decide +kernel⟩
-- slots: 
abbrev s__law_right_here : Stmt := topS 58
abbrev N__law_right_here : List Str := ["_law_cup_here", "_law_grammar_here", "_law_every", "_law_turn", "_law_some_here", "_law_due", "_law_item"]
theorem sc__law_right_here : FnScope N__law_right_here ["_law_cup_here", "_law_grammar_here"] (defScope s__law_right_here) := ⟨rfl, rfl, rfl, by decide +kernel, rfl, by decide +kernel, by decide +kernel⟩
-- slots: 0 _law_cup_here*, 1 _law_grammar_here, 2 _law_every, 3 _law_turn, 4 _law_some_here, 5 _law_due*, 6 _law_item
abbrev s_law : Stmt := topS 59
abbrev N_law : List Str := ["_law_script", "_law_cup_here", "_law_turn", "_law_again_here", "_law_parts", "_law_nothing", "_law_rows", "_law_grammar_here", "_law_items", "_law_due"]
theorem sc_law : FnScope N_law ["_law_script"] (defScope s_law) := ⟨rfl, rfl, rfl, by decide +kernel, rfl, by decide +kernel, by decide +kernel⟩
-- slots: 0 _law_script, 1 _law_cup_here, 2 _law_turn, 3 _law_again_here, 4 _law_parts, 5 _law_nothing, 6 _law_rows, 7 _law_grammar_here, 8 _law_items, 9 _law_due
end Sh

set_option maxHeartbeats 4000000
/-! Layer J: the rules with K in the open; what the text names. -/
namespace Sh
open PySem PySem.Spec PyProof.Rows L2
section
variable {X : Cx} (K : PySem.W.Frag)
theorem k_lt (hu : X.A.units < cLine) (hK : X.K = K := by rfl) : OpR X (compareOp .Lt) (rLtA K) := hK ▸ op_ltA hu
theorem k_eq (hu : X.A.units + 64 < cLine) (hK : X.K = K := by rfl) : OpR X (compareOp .Eq) (rEqD K) := hK ▸ op_eqD hu
theorem k_ne (hu : X.A.units + 64 < cLine) (hK : X.K = K := by rfl) : OpR X (compareOp .NotEq) (rNeD K) := hK ▸ op_neD hu
theorem k_in (hu : X.A.units + 65 < cLine) (hK : X.K = K := by rfl) : OpR X (compareOp .In) (rInA K) := hK ▸ op_inA hu
theorem k_notin (hu : X.A.units + 65 < cLine) (hK : X.K = K := by rfl) : OpR X (compareOp .NotIn) (rNotInA K) := hK ▸ op_notInA hu
theorem k_sl (hK : X.K = K := by rfl) : SlR X (rSlAny K) := hK ▸ sl_any
theorem k_ix (hK : X.K = K := by rfl) : IxR X (rIx K) := hK ▸ ix_seq
theorem k_len (hK : X.K = K := by rfl) : CallR X (.builtin "len") (rLen K) := hK ▸ call_lenA
theorem k_all (hc : X.calm = true) (hK : X.K = K := by rfl) : CallR X (.builtin "all") (rAll K) := hK ▸ cr_all hc
theorem k_isi (hK : X.K = K := by rfl) : CallR X (.builtin "isinstance") (rIsi K) := hK ▸ call_isi
theorem k_sum {k : Nat} (hr : Room k X.A) (hK : X.K = K := by rfl) : CallR X (.builtin "sum") (rSumL K) := hK ▸ cr_sumL hr
theorem k_sdt {k : Nat} (hr : Room k X.A) (hK : X.K = K := by rfl) : CallR X (.builtin "sorted") (rSortedDT K) := hK ▸ cr_sortedDT hr
theorem k_list (hK : X.K = K := by rfl) : CallR X (.type "list") (rListOf K) := hK ▸ call_listA
theorem k_tuple (hK : X.K = K := by rfl) : CallR X (.type "tuple") (rTupleOf K) := hK ▸ call_tupleA
theorem k_seq {tg e : Expr} {te : TE} (h : PE X e te) (hK : X.K = K := by rfl) : PI X tg e (iSeq K te) := hK ▸ pi_seq h
theorem k_enum {e : Expr} {ta : TA} {p pos tpos : Pos} {elts : List Expr} {kk : Nat} (hg : Gl X "enumerate") (hm : X.mg "enumerate" = none) (ha : PA X [e] ta) (hs : starEach [e] X.env = [(false, eval e X.env)] := by rfl) (hK : X.K = K := by rfl) :
    PI X (.Tuple elts kk tpos) (.Call (.Name "enumerate" p) [e] [] pos) (iEnT K ta) := hK ▸ pi_enumT hg hm ha hs
theorem k_zip {e e2 : Expr} {ta : TA} {p pos tpos : Pos} {elts : List Expr} {kk : Nat} (hg : Gl X "zip") (hm : X.mg "zip" = none) (ha : PA X [e, e2] ta)
    (hs : starEach [e, e2] X.env = (false, eval e X.env) :: starEach [e2] X.env := by rfl) (hpl : (backTo pos (starEach [e2] X.env)).any (·.1) = false := by rfl) (hK : X.K = K := by rfl) :
    PI X (.Tuple elts kk tpos) (.Call (.Name "zip" p) [e, e2] [] pos) (RZ.iZipA K ta) := hK ▸ RZ.pi_zipA hg hm ha hs hpl
theorem k_lower {o : Expr} {to : TE} {apos cpos : Pos} (ho : PE X o to) (hbase : attributeBase o "islower" X.env (eval o X.env) = eval o X.env := by rfl) (hline : (apos.endLine == cpos.line) = true := by rfl) (hK : X.K = K := by rfl) :
    PE X (.Call (.Attribute o "islower" apos) [] [] cpos) (tBM0 K "str" rLower to) := hK ▸ pe_bm0 PySem.F.plainAttrs_str PySem.F.slot_str_islower PySem.F.type_str_islower mt_lower ho hbase hline
theorem k_sset {a : Expr} {ta : TE} {p p2 q pos : Pos} {k : Nat} (hr : Room k X.A) (hg : Gl X "sorted") (hm : X.mg "sorted" = none) (hg2 : Gl X "set") (hm2 : X.mg "set" = none) (ha : PE X a ta)
    (na : starEach [a] X.env = (false, eval a X.env) :: starEach [] X.env := by rfl) (hK : X.K = K := by rfl) : PE X (.Call (.Name "sorted" p) [.Call (.Name "set" p2) [a] [] q] [] pos) (tSS K ta) := hK ▸ pe_sortedSet hr hg hm hg2 hm2 ha na
theorem k_lset {a : Expr} {ta : TE} {p p2 q pos : Pos} {k : Nat} (hr : Room k X.A) (hg : Gl X "len") (hm : X.mg "len" = none) (hg2 : Gl X "set") (hm2 : X.mg "set" = none) (ha : PE X a ta)
    (na : starEach [a] X.env = (false, eval a X.env) :: starEach [] X.env := by rfl) (hK : X.K = K := by rfl) : PE X (.Call (.Name "len" p) [.Call (.Name "set" p2) [a] [] q] [] pos) (tLS K ta) := hK ▸ pe_lenSet hr hg hm hg2 hm2 ha na
end
/-- what the text names -/
structure Tb (K : PySem.W.Frag) (mg : Str → Option Value) : Prop where
  b_len : mg "len" = none
  b_list : mg "list" = none
  b_tuple : mg "tuple" = none
  b_all : mg "all" = none
  b_isinstance : mg "isinstance" = none
  b_int : mg "int" = none
  b_bool : mg "bool" = none
  b_str : mg "str" = none
  b_abs : mg "abs" = none
  b_range : mg "range" = none
  b_sorted : mg "sorted" = none
  b_set : mg "set" = none
  b_sum : mg "sum" = none
  b_enumerate : mg "enumerate" = none
  b_zip : mg "zip" = none
  c_NAME : ∃ t, mg "NAME" = some (.int 20 t)
  c_TERMINALS : ∃ t, mg "TERMINALS" = some (.int 40 t)
  c_NONTERMINALS : ∃ t, mg "NONTERMINALS" = some (.int 40 t)
  c_RULES : ∃ t, mg "RULES" = some (.int 80 t)
  c_RIGHT : ∃ t, mg "RIGHT" = some (.int 8 t)
  c_SMALL : ∃ t, mg "SMALL" = some (.str "abcdefghijklmnopqrstuvwxyz" t)
  c_CAPITAL : ∃ t, mg "CAPITAL" = some (.str "ABCDEFGHIJKLMNOPQRSTUVWXYZ" t)
  c_FIGURES : ∃ t, mg "FIGURES" = some (.str "0123456789" t)
  c_ITEMS : ∃ t, mg "ITEMS" = some (.int 729 t)
  d_is_whole : Dn K mg "is_whole" s_is_whole ["value", "low", "high"]
  d_is_tuple_of : Dn K mg "is_tuple_of" s_is_tuple_of ["value", "low", "high"]
  d_is_name : Dn K mg "is_name" s_is_name ["value"]
  d_is_terminal_name : Dn K mg "is_terminal_name" s_is_terminal_name ["value"]
  d_is_nonterminal_name : Dn K mg "is_nonterminal_name" s_is_nonterminal_name ["value"]
  d_ascends : Dn K mg "ascends" s_ascends ["items"]
  d_lefts_of : Dn K mg "lefts_of" s_lefts_of ["rules"]
  d_fits_rule : Dn K mg "fits_rule" s_fits_rule ["value"]
  d_fits_grammar : Dn K mg "fits_grammar" s_fits_grammar ["value"]
  d_rules_for : Dn K mg "rules_for" s_rules_for ["grammar", "nonterminal"]
  d_need_grammar : Dn K mg "need_grammar" s_need_grammar ["value"]
  d_right_of : Dn K mg "right_of" s_right_of ["grammar", "rule"]
  d_symbol_behind : Dn K mg "symbol_behind" s_symbol_behind ["grammar", "item"]
  d_fits_item : Dn K mg "fits_item" s_fits_item ["grammar", "value"]
  d_fits_items : Dn K mg "fits_items" s_fits_items ["grammar", "value"]
  d_all_items : Dn K mg "all_items" s_all_items ["grammar"]
  d_closed_by : Dn K mg "closed_by" s_closed_by ["grammar", "items"]
  d_need_items : Dn K mg "need_items" s_need_items ["grammar", "value"]
  d_items_of : Dn K mg "items_of" s_items_of ["grammar"]
  d_closed : Dn K mg "closed" s_closed ["grammar", "items"]
  d__law_cup : Dn K mg "_law_cup" s__law_cup ["_law_script"]
  d__law_roll : Dn K mg "_law_roll" s__law_roll ["_law_cup_here", "_law_many"]
  d__law_some : Dn K mg "_law_some" s__law_some ["_law_cup_here", "_law_things"]
  d__law_right : Dn K mg "_law_right" s__law_right ["_law_grammar_here", "_law_rule"]
  d__law_all_items : Dn K mg "_law_all_items" s__law_all_items ["_law_grammar_here"]
  d__law_behind : Dn K mg "_law_behind" s__law_behind ["_law_grammar_here", "_law_item"]
  d__law_closed : Dn K mg "_law_closed" s__law_closed ["_law_grammar_here", "_law_items"]
  d__law_named : Dn K mg "_law_named" s__law_named ["_law_cup_here", "_law_many"]
  d__law_over : Dn K mg "_law_over" s__law_over ["_law_rules"]
  d__law_list_grammar : Dn K mg "_law_list_grammar" s__law_list_grammar ["_law_cup_here"]
  d__law_nest_grammar : Dn K mg "_law_nest_grammar" s__law_nest_grammar ["_law_cup_here"]
  d__law_level_grammar : Dn K mg "_law_level_grammar" s__law_level_grammar ["_law_cup_here"]
  d__law_two_sided_grammar : Dn K mg "_law_two_sided_grammar" s__law_two_sided_grammar ["_law_cup_here"]
  d__law_mirror_grammar : Dn K mg "_law_mirror_grammar" s__law_mirror_grammar ["_law_cup_here"]
  d__law_near_grammar : Dn K mg "_law_near_grammar" s__law_near_grammar ["_law_cup_here"]
  d__law_far_grammar : Dn K mg "_law_far_grammar" s__law_far_grammar ["_law_cup_here"]
  d__law_odd_grammar : Dn K mg "_law_odd_grammar" s__law_odd_grammar ["_law_cup_here"]
  d__law_known_grammar : Dn K mg "_law_known_grammar" s__law_known_grammar ["_law_cup_here"]
  d__law_random_grammar : Dn K mg "_law_random_grammar" s__law_random_grammar ["_law_cup_here"]
  d__law_grammar : Dn K mg "_law_grammar" s__law_grammar ["_law_cup_here"]
  d__law_again : Dn K mg "_law_again" s__law_again []
  d__law_own_two : Dn K mg "_law_own_two" s__law_own_two []
  d__law_right_here : Dn K mg "_law_right_here" s__law_right_here ["_law_cup_here", "_law_grammar_here"]
  d_law : Dn K mg "law" s_law ["_law_script"]

end Sh

set_option maxHeartbeats 4000000
/-! Layer K: the defs of the grammars. -/
namespace Sh
open PySem PySem.Spec PyProof.Rows L2
section
variable {c : Option Addr} {te ta tb : TE} {tl : TA} {δ : List Ds} {K : PySem.W.Frag}
theorem et_t {b : Bool} (h : EvD c te δ (.bool b)) : EvB c (tTest te) δ b := fun M σ H w s Q q => by
  refine h M σ H w s _ fun v d H1 e1 w1 r1 e => ?_
  subst e
  cases r1
  exact ⟨b, rfl, q b H1 e1 w1 rfl⟩
def zipD (xs ys : List PyData) : List PyData := (xs.zip ys).map fun p => .tuple [p.1, p.2]
theorem wk_zip {xs ys : List PyData} (h : EvL c tl δ [.tuple xs, .tuple ys]) : Wk c (RZ.iZipA K tl) δ (IsItems (zipD xs ys)) := fun M σ H w s R q => by
  refine h M σ H w s _ fun vs dd H1 e1 w1 r1 ed => ?_
  subst ed
  cases r1 with
  | cons r1 t1 =>
    cases t1 with
    | cons r2 t2 =>
      cases t2
      cases r1 with
      | tup n1 ea sa =>
        cases r2 with
        | tup n2 eb sb =>
          refine ⟨_, _, _, _, rfl, .inr ⟨SqT.of ea, SqT.of eb, ?_⟩⟩
          have hlen : (zipD xs ys).length = min xs.length ys.length := by simp [zipD]
          refine q _ H1 _ (fun i => (zipD xs ys).getD i .none) e1 w1 ⟨rfl, fun _ => rfl⟩ (fun i M' H2 hi hM ht hk => ?_) fun H2 hk => ?_
          · rw [hlen] at hi
            have e2 := hk _ _ n1 ea
            have e3 := hk _ _ n2 eb
            obtain ⟨v, hv, rv⟩ := sa.get (List.getElem?_eq_getElem (show i < xs.length by omega))
            obtain ⟨u, hu, ru⟩ := sb.get (List.getElem?_eq_getElem (show i < ys.length by omega))
            refine ⟨⟨_, _, v, u, SqT.of e2, SqT.of e3, hv, hu⟩, fun x H3 y => ?_⟩
            obtain ⟨T, x1, y1, rfl, hT, rfl, hx, hy⟩ := y
            have ex : x1 = v := Option.some.inj ((hx _ (SqT.of e2)).symm.trans hv)
            have ey : y1 = u := Option.some.inj ((hy _ (SqT.of e3)).symm.trans hu)
            subst ex
            subst ey
            refine ⟨Ex.new hT, ?_⟩
            have ei : (zipD xs ys)[i]? = some (.tuple [xs[i], ys[i]]) := by
              unfold zipD
              rw [List.getElem?_map, List.getElem?_eq_getElem (by simp; omega)]
              simp
            show Rp M' _ _ ((zipD xs ys).getD i .none)
            rw [getD_of ei]
            refine .tup (fun m => ht T m hT) upd_same (.cons ?_ (Rps.one ?_))
            · exact Rp.mono (fun _ _ m _ => m) (fun a o _ e => ex_none (Ex.new hT) e) _ (Rp.mono hM hk _ rv)
            · exact Rp.mono (fun _ _ m _ => m) (fun a o _ e => ex_none (Ex.new hT) e) _ (Rp.mono hM hk _ ru)
          · refine ⟨_, _, SqT.of (hk _ _ n1 ea), SqT.of (hk _ _ n2 eb), ?_⟩
            have l1 := sa.length
            have l2 := sb.length
            rw [hlen]
            omega
theorem atI0 {α : Type} {x : α} {l : List α} : atI (x :: l) 0 = some x := by
  unfold atI ixN
  simp
theorem atI1 {α : Type} {x y : α} {l : List α} : atI (x :: y :: l) 1 = some y := by
  unfold atI ixN
  simp only [List.length_cons]
  rw [if_pos (by omega), if_pos (by omega)]
  rfl
theorem atI2 {α : Type} {x y z : α} {l : List α} : atI (x :: y :: z :: l) 2 = some z := by
  unfold atI ixN
  simp only [List.length_cons]
  rw [if_pos (by omega), if_pos (by omega)]
  rfl
theorem all_true {α : Type} (l : List α) : ((l.map fun _ => true).all id) = true := by simp
/-- all([..]) where each is true -/
theorem ev_all {ds : List PyData} (h : EvD c te δ (.list (ds.map fun _ => .bool true))) : EvD c (tCB (rAll K) (tCons te tNil)) δ (.bool true) := by
  have e : (ds.map fun _ => PyData.bool true) = (ds.map fun _ => true).map PyData.bool := by rw [List.map_map] <;> rfl
  rw [e] at h
  exact (ev_cb (ea_cons h ea_nil) rl_all).imp fun d hd => by rw [hd, all_true]
end

section
variable {Pg : Program} {w : World} {K : PySem.W.Frag} {mg : Str → Option Value} {base : Heap}
abbrev Yes : List PyData → PyData → Prop := fun _ d => d = .bool true
abbrev spWhole : Sp := spD 3 (fun ds => ∃ v lo hi : Int, ds = [.int v, .int lo, .int hi] ∧ lo ≤ v ∧ v ≤ hi) Yes
theorem ok_is_whole (T : Tb K mg) : Ok Pg w K mg base "is_whole" ["value", "low", "high"] 1 spWhole := by
  refine ok_def (k := 0) T.d_is_whole sc_is_whole (by decide) fun f cdv A outer s H E hr => ⟨_,
    (pss_one (ps_ret (pe_and (pe_callB (k_isi K) (by rfl) T.b_isinstance (by decide +kernel) (pa_cons (pv 0) (pa_cons (pe_bltn (v := .ty "int") (by rfl) T.b_int PyProof.Rows.boot_int rfl) pa_nil))) (pe_and (pe_not (pe_callB (k_isi K) (by rfl) T.b_isinstance (by decide +kernel) (pa_cons (pv 0) (pa_cons (pe_bltn (v := .ty "bool") (by rfl) T.b_bool PyProof.Rows.boot_bool rfl) pa_nil)))) (pe_one (pe_chain (op_le) (op_le) (pv 1) (pv 0) (pv 2))))))), fun ds _ hp => ?_⟩
  obtain ⟨v, lo, hi, rfl, h1, h2⟩ := hp
  refine run_retD ((ev_and (ev_isi (b := true) (ev_var rfl) (by rfl)) fun _ => ev_and (ev_not (ev_isi (b := false) (ev_var rfl) (by rfl))) fun _ => ev_chain (ev_var rfl) (ev_var rfl) (ev_var rfl) rd_cmp fun _ => rd_cmp).is (by simp [h1, h2])) rfl
abbrev spTuple : Sp := spD 3 (fun ds => ∃ (v : List PyData) (lo hi : Int), ds = [.tuple v, .int lo, .int hi] ∧ lo ≤ v.length ∧ (v.length : Int) ≤ hi) Yes
theorem ok_is_tuple_of (T : Tb K mg) : Ok Pg w K mg base "is_tuple_of" ["value", "low", "high"] 1 spTuple := by
  refine ok_def (k := 0) T.d_is_tuple_of sc_is_tuple_of (by decide) fun f cdv A outer s H E hr => ⟨_,
    (pss_one (ps_ret (pe_and (pe_callB (k_isi K) (by rfl) T.b_isinstance (by decide +kernel) (pa_cons (pv 0) (pa_cons (pe_bltn (v := .ty "tuple") (by rfl) T.b_tuple PyProof.Rows.boot_tuple rfl) pa_nil))) (pe_one (pe_chain (op_le) (op_le) (pv 1) (pe_callB (k_len K) (by rfl) T.b_len (by decide +kernel) (pa_cons (pv 0) pa_nil)) (pv 2)))))), fun ds _ hp => ?_⟩
  obtain ⟨v, lo, hi, rfl, h1, h2⟩ := hp
  refine run_retD ((ev_and (ev_isi (b := true) (ev_var rfl) (by rfl)) fun _ => ev_chain (ev_var rfl) (ev_cb (ea_cons (ev_var rfl) ea_nil) rl_lenT) (ev_var rfl) rd_cmp fun _ => rd_cmp).is (by simp [h1, h2])) rfl
abbrev spName : Sp := spD 1 (fun ds => ∃ x : Str, ds = [.str x] ∧ nmB x = true) Yes
theorem ok_is_name (T : Tb K mg) : Ok Pg w K mg base "is_name" ["value"] 1 spName := by
  refine ok_def (k := 0) T.d_is_name sc_is_name (by decide) fun f cdv A outer s H E hr => ⟨_,
    (pss_cons (ps_if (PW.pt (pw_or (pt_not (pt_val (pe_callB (k_isi K) (by rfl) T.b_isinstance (by decide +kernel) (pa_cons (pv 0) (pa_cons (pe_bltn (v := .ty "str") (by rfl) T.b_str PyProof.Rows.boot_str rfl) pa_nil))))) (pw_or (pt_not (pt_chain (op_le) (op_le) pe_int (pe_callB (k_len K) (by rfl) T.b_len (by decide +kernel) (pa_cons (pv 0) pa_nil)) (pe_globI (by rfl) T.c_NAME))) (pw_or1 (pt_cmpR (k_in K (hu65 hr)) (pe_ix (k_ix K) (pv 0) pe_int (fun _ _ => rfl)) (pe_globS (by rfl) T.c_FIGURES) (by rfl)))))) (pss_one (ps_ret pe_bl)) pss_nil)
      (pss_one (ps_ret (pe_callB (k_all K rfl) (by rfl) T.b_all (by decide +kernel) (pa_cons (pe_lc (own := [("sign", 1)]) (g := gName 1) rfl sc_is_name.nd (pi_str (pv 0)) (blkOk_by (N := N_is_name) (sc := defScope s_is_name) (own := [("sign", 1)]) (by decide +kernel)) (fun _ _ _ _ _ => (pg_name (i := 1) sc_is_name.nd rfl (Or.inl rfl))) (fun _ _ _ _ _ => pts_nil) (fun _ _ _ _ _ => (pe_or (pe_cmpR (k_in K (hu65 hr)) (pv 1) (pe_globS (by rfl) T.c_SMALL) (by rfl)) (pe_or (pe_cmpR (k_in K (hu65 hr)) (pv 1) (pe_globS (by rfl) T.c_CAPITAL) (by rfl)) (pe_one (pe_cmpR (k_in K (hu65 hr)) (pv 1) (pe_globS (by rfl) T.c_FIGURES) (by rfl))))))) pa_nil))))), fun ds _ hp => ?_⟩
  obtain ⟨x, rfl, hx⟩ := hp
  obtain ⟨k, l, e, hl, hf, ha⟩ := nmB_ok hx
  have hz : x.length = (k :: l).length := by
    rw [← e] <;> rfl
  have hz1 : x.length ≤ 100000 := by
    rw [hz]
    omega
  have hz2 : (decide ((1 : Int) ≤ x.length) && decide ((x.length : Int) ≤ 20)) = true := by
    rw [hz, Bool.and_eq_true, decide_eq_true_eq, decide_eq_true_eq]
    rw [List.length_cons] at hl ⊢
    omega
  refine q_ifNo (b := false) (et_or0 (et_notB (et_b (ev_isi (b := true) (ev_var rfl) (by rfl)))) (et_or0 ((et_notB (et_t (ev_chain ev_int (ev_cb (ea_cons (ev_var rfl) ea_nil) (rl_lenS hz1)) ev_int rd_cmp fun _ => rd_cmp))).is (by rw [hz2] <;> rfl)) ((et_t (ev_op (ev_op (ev_var rfl) ev_int (rd_ixS hz1 (by rw [e]; exact atI0))) ev_str rd_inSign)).is hf))) rfl ?_
  refine run_retD (ev_all (ds := signs x) ?_) rfl
  refine ev_lcM (wk_str (ev_var rfl)) (fun _ => .bool true) (fun d => (ent N_is_name ([PyData.str x].map Ds.dat)).set 1 (.dat d)) [1] (by decide) (by unfold signs; rw [List.length_map, e]; omega) (fun d hd => gb_name) fun d hd => ?_
  obtain ⟨j, hj, rfl⟩ := List.mem_map.mp hd
  rw [e] at hj
  refine (ev_or (ev_op (ev_var rfl) ev_str rd_inSign) fun _ => ev_or (ev_op (ev_var rfl) ev_str rd_inSign) fun _ => ev_op (ev_var rfl) ev_str rd_inSign).is ?_
  exact congrArg PyData.bool (ha j hj)
end
end Sh

set_option maxHeartbeats 4000000
/-! Layer L: the defs of the grammars, on. -/
namespace Sh
open PySem PySem.Spec PyProof.Rows L2
section
variable {c : Option Addr} {te ta tb : TE} {tt : TT} {tl : TA} {δ : List Ds} {K : PySem.W.Frag}
/-- a comprehension over one name, no test -/
theorem ev_lcN {wi : TI} {j : Nat} {ds : List PyData} (W : Wk c wi δ (IsItems ds)) (f : PyData → PyData) (hl : ds.length ≤ 50000) (hf : ∀ x ∈ ds, EvD c te ((wipeD δ [j]).set j (.dat x)) (f x)) : EvD c (tLc wi (gName j) tYes te [j]) δ (.list (ds.map f)) :=
  ev_lcM W f _ [j] (fun _ h => h) hl (fun _ _ => gb_name) hf
/-- .. with a test -/
theorem ev_lcF {wi : TI} {j : Nat} {ds : List PyData} (W : Wk c wi δ (IsItems ds)) (b : PyData → Bool) (f : PyData → PyData) (hl : ds.length ≤ 50000) (hb : ∀ x ∈ ds, EvB c tt ((wipeD δ [j]).set j (.dat x)) (b x))
    (hf : ∀ x ∈ ds, b x = true → EvD c te ((wipeD δ [j]).set j (.dat x)) (f x)) : EvD c (tLc wi (gName j) tt te [j]) δ (.list ((ds.filter b).map f)) :=
  ev_lc W b f _ [j] (fun _ h => h) hl (fun _ _ => gb_name) hb hf
abbrev two (p : PyData × PyData) : PyData := .tuple [p.1, p.2]
def untwo : PyData → PyData × PyData
  | .tuple [x, y] => (x, y)
  | _ => (.none, .none)
/-- over pairs -/
theorem ev_lcT {wi : TI} {i j : Nat} {ps : List (PyData × PyData)} (W : Wk c wi δ (IsItems (ps.map two))) (f : PyData × PyData → PyData) (hl : ps.length ≤ 50000)
    (hf : ∀ p ∈ ps, EvD c te (((wipeD δ [i, j]).set i (.dat p.1)).set j (.dat p.2)) (f p)) : EvD c (tLc wi (gTup K 2 (gCons (gName i) (gCons (gName j) gNil))) tYes te [i, j]) δ (.list (ps.map f)) := by
  have e : (ps.map two).map (fun d => f (untwo d)) = ps.map f := by
    rw [List.map_map] <;> rfl
  rw [← e]
  refine ev_lcM W (fun d => f (untwo d)) (fun d => ((wipeD δ [i, j]).set i (.dat (untwo d).1)).set j (.dat (untwo d).2)) [i, j] (fun _ h => h) (by rw [List.length_map]; exact hl) (fun x hx => ?_) fun x hx => ?_
  · obtain ⟨p, _, rfl⟩ := List.mem_map.mp hx
    exact gb_tup2
  · obtain ⟨p, hp, rfl⟩ := List.mem_map.mp hx
    exact hf p hp
theorem ev_lcTF {wi : TI} {i j : Nat} {ps : List (PyData × PyData)} (W : Wk c wi δ (IsItems (ps.map two))) (b : PyData × PyData → Bool) (f : PyData × PyData → PyData) (hl : ps.length ≤ 50000)
    (hb : ∀ p ∈ ps, EvB c tt (((wipeD δ [i, j]).set i (.dat p.1)).set j (.dat p.2)) (b p)) (hf : ∀ p ∈ ps, b p = true → EvD c te (((wipeD δ [i, j]).set i (.dat p.1)).set j (.dat p.2)) (f p)) :
    EvD c (tLc wi (gTup K 2 (gCons (gName i) (gCons (gName j) gNil))) tt te [i, j]) δ (.list ((ps.filter b).map f)) := by
  have e : ((ps.map two).filter fun d => b (untwo d)).map (fun d => f (untwo d)) = (ps.filter b).map f := by
    rw [List.filter_map, List.map_map] <;> rfl
  rw [← e]
  refine ev_lc W (fun d => b (untwo d)) (fun d => f (untwo d)) (fun d => ((wipeD δ [i, j]).set i (.dat (untwo d).1)).set j (.dat (untwo d).2)) [i, j] (fun _ h => h) (by rw [List.length_map]; exact hl) (fun x hx => ?_) (fun x hx => ?_) fun x hx => ?_
  · obtain ⟨p, _, rfl⟩ := List.mem_map.mp hx
    exact gb_tup2
  · obtain ⟨p, hp, rfl⟩ := List.mem_map.mp hx
    exact hb p hp
  · obtain ⟨p, hp, rfl⟩ := List.mem_map.mp hx
    exact hf p hp
theorem ev_yes {n : Nat} {Pre : List PyData → Prop} {E : XK} {ds : List PyData} (h : EvL c tl δ ds) (hp : Pre ds) (hn : ds.length = n := by rfl) : EvD c (tCall (spD n Pre Yes) [] E tl) δ (.bool true) := ev_call h hn hp fun _ h => h
/-- a call whose answer is told -/
theorem ev_fun {n : Nat} {Pre : List PyData → Prop} {Post : List PyData → PyData → Prop} {E : XK} {ds : List PyData} {r : PyData} (h : EvL c tl δ ds) (hp : Pre ds) (k : ∀ d, Post ds d → d = r) (hn : ds.length = n := by rfl) : EvD c (tCall (spD n Pre Post) [] E tl) δ r := ev_call h hn hp k
theorem eo_int {n : Int} : EvO c (tPart (tC (.int n))) δ fun o => o = some n := fun M σ H w s Q q => ⟨n, rfl, q _ H (Ex.refl c H) w rfl⟩
theorem cut_one (x : PyData) (l : List PyData) : cutD (x :: l) (some 1) none = l := by
  unfold cutD
  have e1 : HT.sIx (x :: l).length 0 (some 1) = 1 := by
    unfold HT.sIx
    simp
  have e2 : HT.sIx (x :: l).length (x :: l).length none = (x :: l).length := by
    unfold HT.sIx
    simp
  rw [e1, e2]
  simp
theorem cut_one' (l : List PyData) : cutD l (some 1) none = l.drop 1 := by
  cases l with
  | nil => simp [cutD]
  | cons x l => exact cut_one x l
theorem asc_zip {α : Type} {lt : α → α → Bool} {enc : α → PyData} : ∀ (l : List α), Asc lt l → ∀ p ∈ (l.map enc).zip ((l.map enc).drop 1), ∃ a b, p = (enc a, enc b) ∧ lt a b = true
  | [], _, p, h => by simp at h
  | [x], _, p, h => by simp at h
  | x :: y :: l, h, p, hp => by
    obtain ⟨h1, h2⟩ := List.pairwise_cons.mp h
    have hp' : p = (enc x, enc y) ∨ p ∈ ((y :: l).map enc).zip (((y :: l).map enc).drop 1) := by simpa using hp
    rcases hp' with e | e
    · exact ⟨x, y, e, h1 y List.mem_cons_self⟩
    · exact asc_zip (y :: l) h2 p e
theorem lex_pair (p q : Int × Int) : HT.lexLt [p.1, p.2] [q.1, q.2] = ltP p q := by
  unfold ltP
  simp only [HT.lexLt_cons, HT.lexLt_nil_nil]
  by_cases h1 : p.1 = q.1 <;> by_cases h2 : p.2 = q.2 <;> simp [h1, h2]
end

section
variable {Pg : Program} {w : World} {K : PySem.W.Frag} {mg : Str → Option Value} {base : Heap}
abbrev spTm : Sp := spD 1 (fun ds => ∃ x : Str, ds = [.str x] ∧ tmB x = true) Yes
theorem ok_is_terminal_name (T : Tb K mg) : Ok Pg w K mg base "is_terminal_name" ["value"] 2 spTm := by
  have O_is_name := ok_is_name (Pg := Pg) (w := w) (base := base) T
  refine ok_def (k := 1) T.d_is_terminal_name sc_is_terminal_name (by decide) fun f cdv A outer s H E hr => ⟨_,
    (pss_one (ps_ret (pe_and (pe_callD O_is_name (hr.mono (by decide)) (by rfl) (pa_cons (pv 0) pa_nil)) (pe_one (pe_cmpR (k_in K (hu65 hr)) (pe_ix (k_ix K) (pv 0) pe_int (fun _ _ => rfl)) (pe_globS (by rfl) T.c_SMALL) (by rfl)))))), fun ds _ hp => ?_⟩
  obtain ⟨x, rfl, hx⟩ := hp
  obtain ⟨hn, h1⟩ := Bool.and_eq_true_iff.mp hx
  obtain ⟨k, l, e, hl, hf, ha⟩ := nmB_ok hn
  have hz : x.length ≤ 100000 := by
    have : x.length = (k :: l).length := by rw [← e] <;> rfl
    omega
  unfold headZ at h1
  rw [e] at h1
  exact run_retD ((ev_and (ev_yes (ea_cons (ev_var rfl) ea_nil) ⟨x, rfl, hn⟩) fun _ => ev_op (ev_op (ev_var rfl) ev_int (rd_ixS hz (by rw [e]; exact atI0))) ev_str rd_inSign).is (congrArg PyData.bool h1)) rfl
abbrev spNt : Sp := spD 1 (fun ds => ∃ x : Str, ds = [.str x] ∧ ntB x = true) Yes
theorem ok_is_nonterminal_name (T : Tb K mg) : Ok Pg w K mg base "is_nonterminal_name" ["value"] 2 spNt := by
  have O_is_name := ok_is_name (Pg := Pg) (w := w) (base := base) T
  refine ok_def (k := 1) T.d_is_nonterminal_name sc_is_nonterminal_name (by decide) fun f cdv A outer s H E hr => ⟨_,
    (pss_one (ps_ret (pe_and (pe_callD O_is_name (hr.mono (by decide)) (by rfl) (pa_cons (pv 0) pa_nil)) (pe_one (pe_cmpR (k_in K (hu65 hr)) (pe_ix (k_ix K) (pv 0) pe_int (fun _ _ => rfl)) (pe_globS (by rfl) T.c_CAPITAL) (by rfl)))))), fun ds _ hp => ?_⟩
  obtain ⟨x, rfl, hx⟩ := hp
  obtain ⟨hn, h1⟩ := Bool.and_eq_true_iff.mp hx
  obtain ⟨k, l, e, hl, hf, ha⟩ := nmB_ok hn
  have hz : x.length ≤ 100000 := by
    have : x.length = (k :: l).length := by rw [← e] <;> rfl
    omega
  unfold headZ at h1
  rw [e] at h1
  exact run_retD ((ev_and (ev_yes (ea_cons (ev_var rfl) ea_nil) ⟨x, rfl, hn⟩) fun _ => ev_op (ev_op (ev_var rfl) ev_int (rd_ixS hz (by rw [e]; exact atI0))) ev_str rd_inSign).is (congrArg PyData.bool h1)) rfl
abbrev spAsc : Sp := spD 1 (fun ds => (∃ bs : List Str, ds = [.tuple (bs.map .str)] ∧ Asc ltS bs ∧ bs.length ≤ 1000) ∨ ∃ bs : List Item, ds = [.tuple (bs.map pairD)] ∧ Asc ltP bs ∧ bs.length ≤ 1000) Yes
theorem ok_ascends (T : Tb K mg) : Ok Pg w K mg base "ascends" ["items"] 1 spAsc := by
  refine ok_def (k := 0) T.d_ascends sc_ascends (by decide) fun f cdv A outer s H E hr => ⟨_,
    (pss_one (ps_ret (pe_callB (k_all K rfl) (by rfl) T.b_all (by decide +kernel) (pa_cons (pe_lc (own := [("one", 1), ("other", 2)]) (g := gTup K 2 (gCons (gName 1) (gCons (gName 2) gNil))) rfl sc_ascends.nd (k_zip K (by rfl) T.b_zip (pa_cons (pv 0) (pa_cons (pe_slice (k_sl K) (pv 0) (po_some pe_int) po_none) pa_nil))) (blkOk_by (N := N_ascends) (sc := defScope s_ascends) (own := [("one", 1), ("other", 2)]) (by decide +kernel)) (fun _ _ _ _ _ => (pg_tup rfl (pgs_cons (pg_name (i := 1) sc_ascends.nd rfl (Or.inl rfl)) (pgs_cons (pg_name (i := 2) sc_ascends.nd rfl (Or.inl rfl)) pgs_nil)))) (fun _ _ _ _ _ => pts_nil) (fun _ _ _ _ _ => (pe_cmpR (k_lt K hr.units0) (pv 1) (pv 2) (nomark _)))) pa_nil)))), fun ds _ hp => ?_⟩
  have go : ∀ xs : List PyData, ds = [.tuple xs] → xs.length ≤ 1000 → (∀ p ∈ xs.zip (xs.drop 1), RD2 (rLtA K) p.1 p.2 fun d => d = .bool true) → Run none (tRet (tCB (rAll K) (tCons (tLc (RZ.iZipA K (tCons (tVar 0) (tCons (tSl (rSlAny K) (tVar 0) (tPart (tC (V.int 1))) tNoPart) tNil))) (gTup K 2 (gCons (gName 1) (gCons (gName 2) gNil))) tYes (tOp (rLtA K) (tVar 1) (tVar 2)) [1, 2]) tNil))) (ent N_ascends (ds.map .dat)) (fun _ => Yes ds .none) (Yes ds) := by
    intro xs e hl hlt
    subst e
    refine run_retD (ev_all (ds := xs.zip (xs.drop 1) |>.map two) ?_) rfl
    refine Ev.is (ev_lcT (ps := xs.zip (xs.drop 1)) (wk_zip (xs := xs) (ys := xs.drop 1) (ea_cons (ev_var rfl) (ea_cons (ev_slice (ev_var rfl) (.inr rfl) eo_int eo_none fun lo hi e1 e2 => ⟨fun z => (by cases z), fun _ => by rw [e1, e2, cut_one']⟩) ea_nil))) (fun _ => .bool true) (by rw [List.length_zip]; omega) fun p hp => ev_op (ev_var rfl) (ev_var rfl) (hlt p hp)) ?_
    rw [List.map_map] <;> rfl
  rcases hp with ⟨bs, e, ha, hl⟩ | ⟨bs, e, ha, hl⟩
  · refine go _ e (by rw [List.length_map]; exact hl) fun p hp => ?_
    obtain ⟨a, b, rfl, h⟩ := asc_zip bs ha p hp
    have q : RD2 (rLtA K) (.str a) (.str b) fun d => d = .bool (ltS a b) := rd_ltS
    rw [h] at q
    exact q
  · refine go _ e (by rw [List.length_map]; exact hl) fun p hp => ?_
    obtain ⟨a, b, rfl, h⟩ := asc_zip bs ha p hp
    have q : RD2 (rLtA K) (pairD a) (pairD b) fun d => d = .bool (HT.lexLt [a.1, a.2] [b.1, b.2]) := rd_ltT (ns := [a.1, a.2]) (ms := [b.1, b.2])
    rw [lex_pair, h] at q
    exact q
end
end Sh

set_option maxHeartbeats 4000000
/-! Layer M: grammars are fit. -/
namespace Sh
open PySem PySem.Spec PyProof.Rows L2
theorem len_insC {α : Type} {lt : α → α → Bool} (x : α) : ∀ l : List α, (insC lt x l).length ≤ l.length + 1
  | [] => Nat.le_refl _
  | y :: l => by
    unfold insC
    split
    · exact Nat.le_refl _
    · split
      · have := len_insC (lt := lt) x l
        simp only [List.length_cons]
        omega
      · exact Nat.le_succ _
theorem len_canonC {α : Type} {lt : α → α → Bool} : ∀ l : List α, (canonC lt l).length ≤ l.length
  | [] => Nat.le_refl _
  | x :: l => by
    have h := len_insC (lt := lt) x (canonC lt l)
    have h2 := len_canonC (lt := lt) l
    show (insC lt x (canonC lt l)).length ≤ _
    rw [List.length_cons]
    omega
def ruleP (r : Rule) : PyData × PyData := (.str r.1, .tuple (r.2.map .str))
theorem encR_two (rs : List Rule) : rs.map encR = (rs.map ruleP).map two := by rw [List.map_map] <;> rfl
def rightD : PyData → List PyData
  | .tuple [_, .tuple xs] => xs
  | _ => []
theorem keyL_rules {rs : List Rule} (h : rs.length < 64) : KeyL (rs.map encR) where
  few := by rwa [List.length_map]
  keys := fun d hd => by
    obtain ⟨r, _, rfl⟩ := List.mem_map.mp hd
    exact encR_key r
  kind := .inr fun d hd => by
    obtain ⟨r, _, rfl⟩ := List.mem_map.mp hd
    exact ⟨_, rfl⟩
theorem nodup_map_inj {α β : Type} {f : α → β} (hf : ∀ a b, f a = f b → a = b) : ∀ {l : List α}, l.Nodup → (l.map f).Nodup := fun {l} h =>
  List.pairwise_map.mpr (List.Pairwise.imp (fun {a b} n e => n (hf a b e)) h)
section
variable {c : Option Addr} {te : TE} {δ : List Ds} {K : PySem.W.Frag}
theorem ev_lc2T {wi wi1 : TI} {i j l : Nat} {ds : List PyData} (W : Wk c wi δ (IsItems ds)) (inn : PyData → List PyData) (f : PyData → PyData → PyData) (hl : ds.length ≤ 500) (hl1 : ∀ x ∈ ds, (inn x).length ≤ 100) (hp : ∀ x ∈ ds, ∃ p, x = two p)
    (W1 : ∀ x ∈ ds, Wk c wi1 (((wipeD δ [i, j, l]).set i (.dat (untwo x).1)).set j (.dat (untwo x).2)) (IsItems (inn x)))
    (hf : ∀ x ∈ ds, ∀ y ∈ inn x, EvD c te ((wipeD (((wipeD δ [i, j, l]).set i (.dat (untwo x).1)).set j (.dat (untwo x).2)) [l]).set l (.dat y)) (f x y)) :
    EvD c (tLc2 wi (gTup K 2 (gCons (gName i) (gCons (gName j) gNil))) tYes wi1 (gName l) tYes te [i, j, l] [l]) δ (.list (ds.flatMap fun x => (inn x).map (f x))) := by
  refine ev_lc2 W inn f (fun x => ((wipeD δ [i, j, l]).set i (.dat (untwo x).1)).set j (.dat (untwo x).2)) (fun x y => (wipeD (((wipeD δ [i, j, l]).set i (.dat (untwo x).1)).set j (.dat (untwo x).2)) [l]).set l (.dat y)) [i, j] [l] (fun a h => ?_) (fun _ h => h) hl hl1 (fun x hx => ?_) W1 (fun x hx y hy => gb_name) hf
  · rcases List.mem_cons.mp h with e | h
    · rw [e]
      exact List.mem_cons_self
    · rw [List.mem_singleton.mp h]
      exact List.mem_cons_of_mem _ List.mem_cons_self
  · obtain ⟨p, rfl⟩ := hp x hx
    exact gb_tup2
theorem ev_lc2N {wi wi1 : TI} {i l : Nat} {ds : List PyData} (W : Wk c wi δ (IsItems ds)) (inn : PyData → List PyData) (f : PyData → PyData → PyData) (hl : ds.length ≤ 500) (hl1 : ∀ x ∈ ds, (inn x).length ≤ 100)
    (W1 : ∀ x ∈ ds, Wk c wi1 ((wipeD δ [i, l]).set i (.dat x)) (IsItems (inn x)))
    (hf : ∀ x ∈ ds, ∀ y ∈ inn x, EvD c te ((wipeD ((wipeD δ [i, l]).set i (.dat x)) [l]).set l (.dat y)) (f x y)) :
    EvD c (tLc2 wi (gName i) tYes wi1 (gName l) tYes te [i, l] [l]) δ (.list (ds.flatMap fun x => (inn x).map (f x))) := by
  refine ev_lc2 W inn f (fun x => (wipeD δ [i, l]).set i (.dat x)) (fun x y => (wipeD ((wipeD δ [i, l]).set i (.dat x)) [l]).set l (.dat y)) [i] [l] (fun a h => ?_) (fun _ h => h) hl hl1 (fun x hx => gb_name) W1 (fun x hx y hy => gb_name) hf
  rw [List.mem_singleton.mp h]
  exact List.mem_cons_self
end
section
variable {Pg : Program} {w : World} {K : PySem.W.Frag} {mg : Str → Option Value} {base : Heap}
abbrev leftsOf (g : G) : List Str := canonC ltS (g.rules.map (·.1))
abbrev spLefts : Sp := spD 1 (fun ds => ∃ rs : List Rule, ds = [.tuple (rs.map encR)] ∧ rs.length < 64) fun ds d => ∀ rs : List Rule, ds = [.tuple (rs.map encR)] → d = .list ((canonC ltS (rs.map (·.1))).map .str)
theorem encRs_inj {rs ts : List Rule} (h : rs.map encR = ts.map encR) : rs = ts := by
  induction rs generalizing ts with
  | nil =>
    cases ts with
    | nil => rfl
    | cons t ts => simp at h
  | cons r rs ih =>
    cases ts with
    | nil => simp at h
    | cons t ts =>
      rw [List.map_cons, List.map_cons] at h
      injection h with a b
      rw [encR_inj a, ih b]
theorem ok_lefts_of (T : Tb K mg) : Ok Pg w K mg base "lefts_of" ["rules"] 1 spLefts := by
  refine ok_def (k := 0) T.d_lefts_of sc_lefts_of (by decide) fun f cdv A outer s H E hr => ⟨_,
    (pss_one (ps_ret (k_sset K hr (by rfl) T.b_sorted (by rfl) T.b_set (pe_lc (own := [("left", 1), ("right", 2)]) (g := gTup K 2 (gCons (gName 1) (gCons (gName 2) gNil))) rfl sc_lefts_of.nd (k_seq K (pv 0)) (blkOk_by (N := N_lefts_of) (sc := defScope s_lefts_of) (own := [("left", 1), ("right", 2)]) (by decide +kernel)) (fun _ _ _ _ _ => (pg_tup rfl (pgs_cons (pg_name (i := 1) sc_lefts_of.nd rfl (Or.inl rfl)) (pgs_cons (pg_name (i := 2) sc_lefts_of.nd rfl (Or.inl rfl)) pgs_nil)))) (fun _ _ _ _ _ => pts_nil) (fun _ _ _ _ _ => (pv 1)))))), fun ds _ hp => ?_⟩
  obtain ⟨rs, rfl, hl⟩ := hp
  refine run_retD (d := .list ((canonC ltS (rs.map (·.1))).map .str)) (ev_sortedSet encS (bs := rs.map (·.1)) (Ev.imp (P := fun d => d = .list ((rs.map ruleP).map (·.1))) (ev_lcT (ps := rs.map ruleP) (wk_tup (ev_var (by rw [← encR_two] <;> rfl))) (fun p => p.1) (by rw [List.length_map]; omega) fun p hp => ev_var rfl) fun d e => .inl (by rw [e, List.map_map, List.map_map] <;> rfl)) (by rw [List.length_map]; exact hl)) fun ts e => ?_
  have e' : rs.map encR = ts.map encR := by simpa using e
  rw [encRs_inj e']
abbrev spRule : Sp := spD 1 (fun ds => ∃ r : Rule, ds = [encR r] ∧ ruleB r = true) Yes
theorem ok_fits_rule (T : Tb K mg) : Ok Pg w K mg base "fits_rule" ["value"] 3 spRule := by
  have O_is_name := ok_is_name (Pg := Pg) (w := w) (base := base) T
  have O_is_tuple_of := ok_is_tuple_of (Pg := Pg) (w := w) (base := base) T
  have O_is_nonterminal_name := ok_is_nonterminal_name (Pg := Pg) (w := w) (base := base) T
  refine ok_def (k := 2) T.d_fits_rule sc_fits_rule (by decide) fun f cdv A outer s H E hr => ⟨_,
    (pss_cons (ps_if (PW.pt (pw_or (pt_not (pt_val (pe_callD O_is_tuple_of (hr.mono (by decide)) (by rfl) (pa_cons (pv 0) (pa_cons pe_int (pa_cons pe_int pa_nil)))))) (pw_or (pt_not (pt_val (pe_callD O_is_nonterminal_name (hr.mono (by decide)) (by rfl) (pa_cons (pe_ix (k_ix K) (pv 0) pe_int (fun _ _ => rfl)) pa_nil)))) (pw_or1 (pt_not (pt_val (pe_callD O_is_tuple_of (hr.mono (by decide)) (by rfl) (pa_cons (pe_ix (k_ix K) (pv 0) pe_int (fun _ _ => rfl)) (pa_cons pe_int (pa_cons (pe_globI (by rfl) T.c_RIGHT) pa_nil)))))))))) (pss_one (ps_ret pe_bl)) pss_nil)
      (pss_one (ps_ret (pe_callB (k_all K rfl) (by rfl) T.b_all (by decide +kernel) (pa_cons (pe_lc (own := [("symbol", 1)]) (g := gName 1) rfl sc_fits_rule.nd (k_seq K (pe_ix (k_ix K) (pv 0) pe_int (fun _ _ => rfl))) (blkOk_by (N := N_fits_rule) (sc := defScope s_fits_rule) (own := [("symbol", 1)]) (by decide +kernel)) (fun _ _ _ _ _ => (pg_name (i := 1) sc_fits_rule.nd rfl (Or.inl rfl))) (fun _ _ _ _ _ => pts_nil) (fun _ _ _ _ _ => (pe_callD O_is_name (hr.mono (by decide)) (by rfl) (pa_cons (pv 1) pa_nil)))) pa_nil))))), fun ds _ hp => ?_⟩
  obtain ⟨r, rfl, hr⟩ := hp
  obtain ⟨h1, h2, h3⟩ := ruleB_ok hr
  have l2 : (r.2.map PyData.str).length ≤ 4 := by rw [List.length_map]; exact h2
  refine q_ifNo (b := false) (et_or0 (et_notB (et_b (ev_yes (ea_cons (ev_var rfl) (ea_cons ev_int (ea_cons ev_int ea_nil))) ⟨[.str r.1, .tuple (r.2.map .str)], 2, 2, rfl, by simp, by simp⟩)))
    (et_or0 (et_notB (et_b (ev_yes (ea_cons (ev_op (ev_var rfl) ev_int (rd_ixT atI0)) ea_nil) ⟨r.1, rfl, h1⟩)))
      (et_notB (et_b (ev_yes (ea_cons (ev_op (ev_var rfl) ev_int (rd_ixT atI1)) (ea_cons ev_int (ea_cons ev_int ea_nil))) ⟨r.2.map .str, 0, 8, rfl, by omega, by omega⟩))))) rfl ?_
  refine run_retD (ev_all (ds := r.2.map .str) ?_) rfl
  refine ev_lcN (wk_tup (ev_op (ev_var rfl) ev_int (rd_ixT atI1))) (fun _ => .bool true) (by omega) fun d hd => ?_
  obtain ⟨x, hx, rfl⟩ := List.mem_map.mp hd
  exact ev_yes (ea_cons (ev_var rfl) ea_nil) ⟨x, rfl, h3 x hx⟩
abbrev spGram : Sp := spD 1 (fun ds => ∃ g : G, ds = [encG g] ∧ Valid g) Yes
theorem ok_fits_grammar (T : Tb K mg) : Ok Pg w K mg base "fits_grammar" ["value"] 4 spGram := by
  have O_is_tuple_of := ok_is_tuple_of (Pg := Pg) (w := w) (base := base) T
  have O_is_terminal_name := ok_is_terminal_name (Pg := Pg) (w := w) (base := base) T
  have O_ascends := ok_ascends (Pg := Pg) (w := w) (base := base) T
  have O_lefts_of := ok_lefts_of (Pg := Pg) (w := w) (base := base) T
  have O_fits_rule := ok_fits_rule (Pg := Pg) (w := w) (base := base) T
  refine ok_def (k := 3) T.d_fits_grammar sc_fits_grammar (by decide) fun f cdv A outer s H E hr => ⟨_,
    (pss_cons (ps_if (PW.pt (pw_or (pt_not (pt_val (pe_callD O_is_tuple_of (hr.mono (by decide)) (by rfl) (pa_cons (pv 0) (pa_cons pe_int (pa_cons pe_int pa_nil)))))) (pw_or (pt_not (pt_val (pe_callD O_is_tuple_of (hr.mono (by decide)) (by rfl) (pa_cons (pe_ix (k_ix K) (pv 0) pe_int (fun _ _ => rfl)) (pa_cons pe_int (pa_cons (pe_globI (by rfl) T.c_TERMINALS) pa_nil)))))) (pw_or1 (pt_not (pt_val (pe_callD O_is_tuple_of (hr.mono (by decide)) (by rfl) (pa_cons (pe_ix (k_ix K) (pv 0) pe_int (fun _ _ => rfl)) (pa_cons pe_int (pa_cons (pe_globI (by rfl) T.c_RULES) pa_nil)))))))))) (pss_one (ps_ret pe_bl)) pss_nil)
      (pss_cons (ps_if (PW.pt (pw_or (pt_not (pt_val (pe_callB (k_all K rfl) (by rfl) T.b_all (by decide +kernel) (pa_cons (pe_lc (own := [("one", 5)]) (g := gName 5) rfl sc_fits_grammar.nd (k_seq K (pe_ix (k_ix K) (pv 0) pe_int (fun _ _ => rfl))) (blkOk_by (N := N_fits_grammar) (sc := defScope s_fits_grammar) (own := [("one", 5)]) (by decide +kernel)) (fun _ _ _ _ _ => (pg_name (i := 5) sc_fits_grammar.nd rfl (Or.inl rfl))) (fun _ _ _ _ _ => pts_nil) (fun _ _ _ _ _ => (pe_callD O_is_terminal_name (hr.mono (by decide)) (by rfl) (pa_cons (pv 5) pa_nil)))) pa_nil)))) (pw_or1 (pt_not (pt_val (pe_callD O_ascends (hr.mono (by decide)) (by rfl) (pa_cons (pe_ix (k_ix K) (pv 0) pe_int (fun _ _ => rfl)) pa_nil))))))) (pss_one (ps_ret pe_bl)) pss_nil)
      (pss_cons (ps_if (PW.pt (pw_or (pt_not (pt_val (pe_callB (k_all K rfl) (by rfl) T.b_all (by decide +kernel) (pa_cons (pe_lc (own := [("rule", 6)]) (g := gName 6) rfl sc_fits_grammar.nd (k_seq K (pe_ix (k_ix K) (pv 0) pe_int (fun _ _ => rfl))) (blkOk_by (N := N_fits_grammar) (sc := defScope s_fits_grammar) (own := [("rule", 6)]) (by decide +kernel)) (fun _ _ _ _ _ => (pg_name (i := 6) sc_fits_grammar.nd rfl (Or.inl rfl))) (fun _ _ _ _ _ => pts_nil) (fun _ _ _ _ _ => (pe_callD O_fits_rule (hr.mono (by decide)) (by rfl) (pa_cons (pv 6) pa_nil)))) pa_nil)))) (pw_or1 (pt_cmpR (k_lt K hr.units0) (k_lset K hr (by rfl) T.b_len (by rfl) T.b_set (pe_ix (k_ix K) (pv 0) pe_int (fun _ _ => rfl))) (pe_callB (k_len K) (by rfl) T.b_len (by decide +kernel) (pa_cons (pe_ix (k_ix K) (pv 0) pe_int (fun _ _ => rfl)) pa_nil)) (nomark _))))) (pss_one (ps_ret pe_bl)) pss_nil)
      (pss_cons (ps_set (i := 1) sc_fits_grammar.nd rfl (Or.inr rfl) (pe_callD O_lefts_of (hr.mono (by decide)) (by rfl) (pa_cons (pe_ix (k_ix K) (pv 0) pe_int (fun _ _ => rfl)) pa_nil)))
      (pss_cons (ps_if (PW.pt (pw_or (pt_cmpR (op_gt) (pe_callB (k_len K) (by rfl) T.b_len (by decide +kernel) (pa_cons (pv 1) pa_nil)) (pe_globI (by rfl) T.c_NONTERMINALS) (nomark _)) (pw_or (pt_not (pt_val (pe_callB (k_isi K) (by rfl) T.b_isinstance (by decide +kernel) (pa_cons (pe_ix (k_ix K) (pv 0) pe_int (fun _ _ => rfl)) (pa_cons (pe_bltn (v := .ty "str") (by rfl) T.b_str PyProof.Rows.boot_str rfl) pa_nil))))) (pw_or1 (pt_cmpR (k_notin K (hu65 hr)) (pe_ix (k_ix K) (pv 0) pe_int (fun _ _ => rfl)) (pv 1) (by rfl)))))) (pss_one (ps_ret pe_bl)) pss_nil)
      (pss_one (ps_ret (pe_callB (k_all K rfl) (by rfl) T.b_all (by decide +kernel) (pa_cons (pe_lc2 (own := [("left", 2), ("right", 3), ("symbol", 4)]) (g := gTup K 2 (gCons (gName 2) (gCons (gName 3) gNil))) (g1 := gName 4) (vs1 := [4]) rfl sc_fits_grammar.nd (k_seq K (pe_ix (k_ix K) (pv 0) pe_int (fun _ _ => rfl))) (blkOk_by (N := N_fits_grammar) (sc := defScope s_fits_grammar) (own := [("left", 2), ("right", 3), ("symbol", 4)]) (by decide +kernel)) (by decide) (fun _ _ _ _ _ => (pg_tup rfl (pgs_cons (pg_name (i := 2) sc_fits_grammar.nd rfl (Or.inl rfl)) (pgs_cons (pg_name (i := 3) sc_fits_grammar.nd rfl (Or.inl rfl)) pgs_nil)))) (fun _ _ _ _ _ => pts_nil) (fun _ _ _ _ _ => (k_seq K (pv 3))) (fun _ _ _ _ _ => (pg_name (i := 4) sc_fits_grammar.nd rfl (Or.inl rfl))) (fun _ _ _ _ _ => pts_nil) (fun _ _ _ _ _ => (pe_or (pe_cmpR (k_in K (hu65 hr)) (pv 4) (pv 1) (by rfl)) (pe_one (pe_cmpR (k_in K (hu65 hr)) (pv 4) (pe_ix (k_ix K) (pv 0) pe_int (fun _ _ => rfl)) (by rfl)))))) pa_nil))))))))), fun ds _ hp => ?_⟩
  obtain ⟨g, rfl, V⟩ := hp
  have lt := V.t1
  have lt2 := V.t2
  have lr := V.r1
  have lr2 := V.r2
  have l1 : (g.terms.map PyData.str).length = g.terms.length := List.length_map ..
  have l2 : (g.rules.map encR).length = g.rules.length := List.length_map ..
  refine q_ifNo (b := false) (et_or0 (et_notB (et_b (ev_yes (ea_cons (ev_var rfl) (ea_cons ev_int (ea_cons ev_int ea_nil))) ⟨[.tuple (g.terms.map .str), .str g.start, .tuple (g.rules.map encR)], 3, 3, rfl, by simp, by simp⟩)))
    (et_or0 (et_notB (et_b (ev_yes (ea_cons (ev_op (ev_var rfl) ev_int (rd_ixT atI0)) (ea_cons ev_int (ea_cons ev_int ea_nil))) ⟨g.terms.map .str, 1, 40, rfl, by omega, by omega⟩)))
      (et_notB (et_b (ev_yes (ea_cons (ev_op (ev_var rfl) ev_int (rd_ixT atI2)) (ea_cons ev_int (ea_cons ev_int ea_nil))) ⟨g.rules.map encR, 1, 80, rfl, by omega, by omega⟩))))) rfl ?_
  refine q_ifNo (b := false) (et_or0 (et_notB (et_b (ev_all (ds := g.terms.map .str) (ev_lcN (wk_tup (ev_op (ev_var rfl) ev_int (rd_ixT atI0))) (fun _ => .bool true) (by omega) fun d hd => ?_))))
    (et_notB (et_b (ev_yes (ea_cons (ev_op (ev_var rfl) ev_int (rd_ixT atI0)) ea_nil) (.inl ⟨g.terms, rfl, V.asc, by omega⟩))))) rfl ?_
  · obtain ⟨x, hx, rfl⟩ := List.mem_map.mp hd
    exact ev_yes (ea_cons (ev_var rfl) ea_nil) ⟨x, rfl, V.tm x hx⟩
  refine q_ifNo (b := false) (et_or0 (et_notB (et_b (ev_all (ds := g.rules.map encR) (ev_lcN (wk_tup (ev_op (ev_var rfl) ev_int (rd_ixT atI2))) (fun _ => .bool true) (by omega) fun d hd => ?_))))
    (EvT.is (et_t (ev_op (ev_lenSet (ev_op (ev_var rfl) ev_int (rd_ixT atI2)) (keyL_rules (by omega)) (nodup_map_inj (fun _ _ => encR_inj) V.nd)) (ev_cb (ea_cons (ev_op (ev_var rfl) ev_int (rd_ixT atI2)) ea_nil) rl_lenT) rd_ltI)) (by simp))) rfl ?_
  · obtain ⟨r, hr, rfl⟩ := List.mem_map.mp hd
    exact ev_yes (ea_cons (ev_var rfl) ea_nil) ⟨r, rfl, V.rule r hr⟩
  refine q_setD (d := .list ((leftsOf g).map .str)) (ev_fun (ea_cons (ev_op (ev_var rfl) ev_int (rd_ixT atI2)) ea_nil) ⟨g.rules, rfl, by omega⟩ fun d h => h g.rules rfl) ?_
  have lc : (leftsOf g).length ≤ 12 := Nat.le_trans (len_canonC _) (by rw [List.length_map]; omega)
  refine q_ifNo (b := false) (et_or0 (EvT.is (et_t (ev_op (ev_cb (ea_cons (ev_var rfl) ea_nil) rl_lenL) ev_int rd_cmp)) (by rw [List.length_map]; simp; omega))
    (et_or0 (et_notB (et_b (ev_isi (b := true) (ev_op (ev_var rfl) ev_int (rd_ixT atI1)) (by rfl)))) (EvT.is (et_t (ev_op (ev_op (ev_var rfl) ev_int (rd_ixT atI1)) (ev_var rfl) rd_notInLs)) (by rw [decide_eq_true ((mem_canonC totS _).mpr V.st)] <;> rfl)))) rfl ?_
  refine run_retD (ev_all (ds := (g.rules.map encR).flatMap rightD) (Ev.is (ev_lc2T (wk_tup (ev_op (ev_var rfl) ev_int (rd_ixT atI2))) rightD (fun _ _ => .bool true) (by omega) (fun d hd => ?_) (fun d hd => ?_) (fun d hd => ?_) fun d hd x hx => ?_) (by rw [List.map_flatMap]))) rfl
  · obtain ⟨r, hr, rfl⟩ := List.mem_map.mp hd
    have := (ruleB_ok (V.rule r hr)).2.1
    show (r.2.map PyData.str).length ≤ 100
    rw [List.length_map]
    omega
  · obtain ⟨r, hr, rfl⟩ := List.mem_map.mp hd
    exact ⟨ruleP r, rfl⟩
  · obtain ⟨r, hr, rfl⟩ := List.mem_map.mp hd
    exact wk_tup (ev_var rfl)
  · obtain ⟨r, hr, rfl⟩ := List.mem_map.mp hd
    obtain ⟨y, hy, rfl⟩ := List.mem_map.mp (show x ∈ r.2.map PyData.str from hx)
    refine Ev.is (ev_or (ev_op (ev_var rfl) (ev_var rfl) rd_inLs) fun _ => ev_op (ev_var rfl) (ev_op (ev_var rfl) ev_int (rd_ixT atI0)) rd_inTs) ?_
    have h := V.sym r hr y hy
    unfold symB at h
    rw [← h]
    refine congrArg PyData.bool (congrArg (· || _) ?_)
    exact decide_eq_decide.mpr (mem_canonC totS _)
end
end Sh

set_option maxHeartbeats 4000000
/-! Layer N: items. -/
namespace Sh
open PySem PySem.Spec PyProof.Rows L2
section
variable {c : Option Addr} {te : TE} {δ : List Ds} {K : PySem.W.Frag}
theorem Wk.re {wi : TI} {S : Nat → (Nat → PyData) → Prop} {ds : List PyData} (h : Wk c wi δ S) (k : ∀ n item, S n item → n = ds.length ∧ ∀ i, i < n → item i = ds.getD i .none) : Wk c wi δ (IsItems ds) := fun M σ H w s R q => h M σ H w s R fun J H1 n item e1 w1 hs go st => by
  obtain ⟨k1, k2⟩ := k n item hs
  refine q J H1 n (fun i => ds.getD i .none) e1 w1 ⟨k1, fun _ => rfl⟩ (fun i M' H2 hi a b c' => ?_) st
  have g := go i M' H2 hi a b c'
  rwa [k2 i hi] at g
theorem run_drop {N : List Ds → Prop} {R P : PyData → Prop} (h : Ev c te δ P) (k : N δ) : Run c (tDrop te) δ N R := fun M σ H w s D q1 q2 =>
  h M σ H w s _ fun v d H1 e1 w1 r1 hd => q1 σ δ H1 e1 w1 (s.ex w e1) k
theorem q_drop {N : List Ds → Prop} {R P : PyData → Prop} {u : TS} (h : Ev c te δ P) (k : Run c u δ N R) : Run c (tSeq (tDrop te) u) δ N R :=
  run_seq (N1 := fun δ1 => δ1 = δ) (run_drop h rfl) fun δ1 e => by
    subst e
    exact k
theorem q_rng {N : List Ds → Prop} {R : PyData → Prop} {u : TS} {tl : TA} {j : Nat} {lo hi : Int} (h : EvL c tl δ [.int lo, .int hi]) (k : Run c u (δ.set j (.rg lo hi)) N R) : Run c (tSeq (tAsg (tCB rRange2 tl) (gName j)) u) δ N R :=
  run_seq (N1 := fun δ1 => δ1 = δ.set j (.rg lo hi)) (run_setRng h rfl) fun δ1 e => by
    subst e
    exact k
theorem wk_rngI {i : Nat} {lo hi : Int} (e : δ[i]? = some (.rg lo hi)) (h0 : -100000 ≤ lo ∧ lo ≤ 100000) (h1 : -100000 ≤ hi ∧ hi ≤ 100000) : Wk c (iRngV (tVar i)) δ (IsItems (rgD lo hi)) :=
  (wk_rngV e h0 h1).re fun n item h => rgD_items h
def numD (n : Nat) : List PyData := (List.range n).map fun i => .int (i : Nat)
theorem numD_len (n : Nat) : (numD n).length = n := by simp [numD]
theorem wk_num {tl : TA} {n : Nat} (h : EvL c tl δ [.int (n : Nat)]) (hn : n ≤ 1000) : Wk c (iRng1 tl) δ (IsItems (numD n)) :=
  (wk_rng1 h (by omega) (by omega)).re fun m item ⟨e1, e2⟩ => by
    have em : m = n := by
      rw [e1]
      simp
    subst em
    refine ⟨(numD_len m).symm, fun i hi => ?_⟩
    rw [e2 i, getD_of (d := .int (i : Nat))]
    unfold numD
    rw [List.getElem?_map, List.getElem?_range hi] <;> rfl
theorem atI_nat' {α : Type} {l : List α} {i : Int} {x : α} (h0 : 0 ≤ i) (h : l[i.toNat]? = some x) : atI l i = some x := by
  have hl : i.toNat < l.length := (List.getElem?_eq_some_iff.mp h).1
  unfold atI ixN
  rw [if_pos h0, if_pos (by omega)]
  exact h
end
theorem rulesD_inj {g g' : G} (h : encG g = encG g') : g = g' := by
  have h' : PyData.tuple [.tuple (g.terms.map .str), .str g.start, .tuple (g.rules.map encR)] = .tuple [.tuple (g'.terms.map .str), .str g'.start, .tuple (g'.rules.map encR)] := h
  simp only [PyData.tuple.injEq, List.cons.injEq, PyData.str.injEq, and_true] at h'
  obtain ⟨a, b, c⟩ := h'
  have e1 := strs_inj a
  have e2 := encRs_inj c
  cases g
  cases g'
  simp only at e1 b e2
  rw [e1, b, e2]
theorem optD_inj {x y : Option Str} (h : optD x = optD y) : x = y := by
  cases x <;> cases y <;> simp [optD] at h ⊢
  exact h
theorem pairD_inj {p q : Item} (h : pairD p = pairD q) : p = q := encP.inj p q h
theorem pairs_inj {l l' : List Item} (h : l.map pairD = l'.map pairD) : l = l' := by
  induction l generalizing l' with
  | nil =>
    cases l' with
    | nil => rfl
    | cons t ts => simp at h
  | cons r rs ih =>
    cases l' with
    | nil => simp at h
    | cons t ts =>
      rw [List.map_cons, List.map_cons] at h
      injection h with a b
      rw [pairD_inj a, ih b]
def rulesO (g : G) (x : Option Str) : List Int := ((List.range g.rules.length).filter fun r => decide ((g.rules[r]?).map (·.1) = x)).map fun (r : Nat) => (r : Int)
def intOf : PyData → Int
  | .int i => i
  | _ => 0
def firstD : PyData → PyData
  | .tuple (x :: _) => x
  | _ => .none
theorem sign_ok {k : Nat} (h : (inZ k smallZ || (inZ k capZ || inZ k figZ)) = true) : k < 128 := by
  have a : ∀ k ∈ smallZ.cps.toList, k < 128 := by decide +kernel
  have b : ∀ k ∈ capZ.cps.toList, k < 128 := by decide +kernel
  have d : ∀ k ∈ figZ.cps.toList, k < 128 := by decide +kernel
  simp only [Bool.or_eq_true, decide_eq_true_eq] at h
  rcases h with h | h | h
  · exact a k h
  · exact b k h
  · exact d k h
theorem nm_strOk {x : Str} (h : nmB x = true) : PyData.canLay0 (.str x) = true := by
  obtain ⟨k, l, e, _, _, ha⟩ := nmB_ok h
  show x.cps.all (fun c => decide (c < 0x110000)) = true
  rw [← Array.all_toList, List.all_eq_true]
  intro j hj
  rw [e] at hj
  have := sign_ok (ha j hj)
  rw [decide_eq_true_eq]
  omega
theorem nm_shaped {x : Str} (h : nmB x = true) : SeqAt.shaped (.str x) = true := by
  unfold SeqAt.shaped
  rw [nm_strOk h]
  simp [PyData.depth]
def symO (x : Option Str) : Prop := ∀ y, x = some y → nmB y = true
theorem optD_shaped {x : Option Str} (h : symO x) : SeqAt.shaped (optD x) = true := by
  cases x with
  | none => rfl
  | some y => exact nm_shaped (h y rfl)
section
variable {Pg : Program} {w : World} {K : PySem.W.Frag} {mg : Str → Option Value} {base : Heap}
abbrev isNone : List PyData → PyData → Prop := fun _ d => d = .none
abbrev spNeedG : Sp := spD 1 (fun ds => ∃ g : G, ds = [encG g] ∧ Valid g) isNone
theorem ok_need_grammar (T : Tb K mg) : Ok Pg w K mg base "need_grammar" ["value"] 5 spNeedG := by
  have O_fits_grammar := ok_fits_grammar (Pg := Pg) (w := w) (base := base) T
  refine ok_def (k := 4) T.d_need_grammar sc_need_grammar (by decide) fun f cdv A outer s H E hr => ⟨_,
    (pss_one (ps_if (pt_not (pt_val (pe_callD O_fits_grammar (hr.mono (by decide)) (by rfl) (pa_cons (pv 0) pa_nil)))) (pss_one ps_never) pss_nil)), fun ds _ hp => ?_⟩
  obtain ⟨g, rfl, V⟩ := hp
  exact run_if (B := fun b => b = false) (et_notB (et_b (ev_yes (ea_cons (ev_var rfl) ea_nil) ⟨g, rfl, V⟩))) (fun z => by cases z) fun _ => run_next rfl
abbrev spRulesFor : Sp := spD 2 (fun ds => ∃ (g : G) (x : Option Str), ds = [encG g, optD x] ∧ Valid g ∧ symO x) fun ds d => ∀ (g : G) (x : Option Str), ds = [encG g, optD x] → d = .list ((rulesO g x).map .int)
theorem ok_rules_for (T : Tb K mg) : Ok Pg w K mg base "rules_for" ["grammar", "nonterminal"] 1 spRulesFor := by
  refine ok_def (k := 0) T.d_rules_for sc_rules_for (by decide) fun f cdv A outer s H E hr => ⟨_,
    (pss_one (ps_ret (pe_lc (own := [("at", 2), ("rule", 3)]) (g := gTup K 2 (gCons (gName 2) (gCons (gName 3) gNil))) rfl sc_rules_for.nd (k_enum K (by rfl) T.b_enumerate (pa_cons (pe_ix (k_ix K) (pv 0) pe_int (fun _ _ => rfl)) pa_nil)) (blkOk_by (N := N_rules_for) (sc := defScope s_rules_for) (own := [("at", 2), ("rule", 3)]) (by decide +kernel)) (fun _ _ _ _ _ => (pg_tup rfl (pgs_cons (pg_name (i := 2) sc_rules_for.nd rfl (Or.inl rfl)) (pgs_cons (pg_name (i := 3) sc_rules_for.nd rfl (Or.inl rfl)) pgs_nil)))) (fun _ _ _ _ _ => (pts_one (pt_cmpR (k_eq K hr.units) (pe_ix (k_ix K) (pv 3) pe_int (fun _ _ => rfl)) (pv 1) (nomark _)))) (fun _ _ _ _ _ => (pv 2))))), fun ds _ hp => ?_⟩
  obtain ⟨g, x, rfl, V, hx⟩ := hp
  have hl := V.r2
  have l2 : (g.rules.map encR).length = g.rules.length := List.length_map ..
  refine run_retD (d := .list ((rulesO g x).map .int)) (Ev.is (ev_lcTF (ps := (List.range g.rules.length).map fun i => (.int (i : Nat), (g.rules.map encR).getD i .none)) (Wk.re (wk_enum (ds := g.rules.map encR) (ea_cons (ev_op (ev_var rfl) ev_int (rd_ixT atI2)) ea_nil)) fun n item ⟨e1, e2⟩ => ⟨by rw [e1, enumD]; simp, fun i _ => by rw [e2 i, enumD, List.map_map, l2] <;> rfl⟩)
    (fun p => PyData.eqv (firstD p.2) (optD x)) (fun p => p.1) (by simp; omega) (fun p hp => ?_) fun p hp _ => ev_var rfl) ?_) fun g' x' e => ?_
  · obtain ⟨i, hi, rfl⟩ := List.mem_map.mp hp
    have hi' : i < g.rules.length := List.mem_range.mp hi
    have e : (g.rules.map encR).getD i .none = encR (g.rules[i]) := getD_of (by rw [List.getElem?_map, List.getElem?_eq_getElem hi'] <;> rfl)
    have hn := nt_nm (ruleB_ok (V.rule _ (List.getElem_mem hi'))).1
    simp only [e]
    exact et_t (ev_op (ev_op (ev_var rfl) ev_int (rd_ixT atI0)) (ev_var rfl) (rd_eq (nm_shaped hn) (optD_shaped hx)))
  · rw [List.filter_map, List.map_map]
    unfold rulesO
    rw [List.map_map]
    refine congrArg PyData.list ?_
    have ef : (List.range g.rules.length).filter ((fun p : PyData × PyData => PyData.eqv (firstD p.2) (optD x)) ∘ fun i => (.int (i : Nat), (g.rules.map encR).getD i .none)) = (List.range g.rules.length).filter fun r => decide ((g.rules[r]?).map (·.1) = x) := by
      refine List.filter_congr fun i hi => ?_
      have hi' : i < g.rules.length := List.mem_range.mp hi
      have e : (g.rules.map encR).getD i .none = encR (g.rules[i]) := getD_of (by rw [List.getElem?_map, List.getElem?_eq_getElem hi'] <;> rfl)
      show PyData.eqv (firstD ((g.rules.map encR).getD i .none)) (optD x) = _
      rw [e, List.getElem?_eq_getElem hi']
      show PyData.eqv (.str (g.rules[i]).1) (optD x) = decide (some (g.rules[i]).1 = x)
      cases x with
      | none => simp [optD, PyData.eqv]
      | some y =>
        simp only [optD, PyData.eqv, Option.some.injEq]
        first | rfl | simp
    rw [ef] <;> rfl
  · simp only [List.cons.injEq, and_true] at e
    rw [rulesD_inj e.1, optD_inj e.2]

theorem rightI_len {g : G} (V : Valid g) {n : Int} (h1 : -1 ≤ n) (h2 : n < g.rules.length) : (rightI g n).length ≤ 4 := by
  unfold rightI
  by_cases c : n < 0
  · rw [if_pos c]
    simp
  · rw [if_neg c]
    have hl : n.toNat < g.rules.length := by omega
    rw [List.getElem?_eq_getElem hl]
    exact (ruleB_ok (V.rule _ (List.getElem_mem hl))).2.1
theorem rightI_nm {g : G} (V : Valid g) {n : Int} : ∀ x ∈ rightI g n, nmB x = true := by
  intro x hx
  unfold rightI at hx
  by_cases c : n < 0
  · rw [if_pos c] at hx
    rw [List.mem_singleton.mp hx]
    obtain ⟨r, hr, e⟩ := List.mem_map.mp V.st
    rw [← e]
    exact nt_nm (ruleB_ok (V.rule r hr)).1
  · rw [if_neg c] at hx
    cases e : g.rules[n.toNat]? with
    | none =>
      rw [e] at hx
      cases hx
    | some r =>
      rw [e] at hx
      exact (ruleB_ok (V.rule r (List.mem_of_getElem? e))).2.2 x hx
theorem behind_sym {g : G} (V : Valid g) (i : Item) : symO (behindI g i) := fun y e => rightI_nm V y (List.mem_of_getElem? e)
abbrev spRight : Sp := spD 2 (fun ds => ∃ (g : G) (n : Int), ds = [encG g, .int n] ∧ -1 ≤ n ∧ n < g.rules.length) fun ds d => ∀ (g : G) (n : Int), ds = [encG g, .int n] → d = .tuple ((rightI g n).map .str)
theorem two_inj {a b x y : PyData} (h : [a, b] = [x, y]) : a = x ∧ b = y := by
  simpa using h
theorem int_inj' {i j : Int} (h : PyData.int i = .int j) : i = j := by
  injection h
theorem ok_right_of (T : Tb K mg) : Ok Pg w K mg base "right_of" ["grammar", "rule"] 1 spRight := by
  refine ok_def (k := 0) T.d_right_of sc_right_of (by decide) fun f cdv A outer s H E hr => ⟨_,
    (pss_one (ps_ret (pe_ifExp (pt_cmpR (op_ge) (pv 1) pe_int (nomark _)) (pe_ix (k_ix K) (pe_ix (k_ix K) (pe_ix (k_ix K) (pv 0) pe_int (fun _ _ => rfl)) (pv 1) (fun _ _ => rfl)) pe_int (fun _ _ => rfl)) (pe_tup (pa_cons (pe_ix (k_ix K) (pv 0) pe_int (fun _ _ => rfl)) pa_nil))))), fun ds _ hp => ?_⟩
  obtain ⟨g, n, rfl, h1, h2⟩ := hp
  refine run_retD (d := .tuple ((rightI g n).map .str)) (ev_if (b := decide (0 ≤ n)) (et_t (Ev.is (ev_op (ev_var rfl) ev_int rd_cmp) (congrArg PyData.bool (by simp)))) (fun hb => ?_) fun hb => ?_) fun g' n' e => ?_
  · have h0 : 0 ≤ n := of_decide_eq_true hb
    have hl : n.toNat < g.rules.length := by omega
    have e : rightI g n = (g.rules[n.toNat]).2 := by
      unfold rightI
      rw [if_neg (by omega), List.getElem?_eq_getElem hl] <;> rfl
    rw [e]
    exact ev_op (ev_op (ev_op (ev_var rfl) ev_int (rd_ixT atI2)) (ev_var rfl) (rd_ixT (d := encR (g.rules[n.toNat])) (atI_nat' h0 (by rw [List.getElem?_map, List.getElem?_eq_getElem hl] <;> rfl)))) ev_int (rd_ixT atI1)
  · have h0 : ¬ 0 ≤ n := of_decide_eq_false hb
    have e : rightI g n = [g.start] := by
      unfold rightI
      rw [if_pos (by omega)]
    rw [e]
    exact ev_tup (ea_cons (ev_op (ev_var rfl) ev_int (rd_ixT atI1)) ea_nil) (by simp)
  · obtain ⟨a, b⟩ := two_inj e
    rw [rulesD_inj a, int_inj' b]
abbrev spBehind : Sp := spD 2 (fun ds => ∃ (g : G) (i : Item), ds = [encG g, pairD i] ∧ itemOk g i) fun ds d => ∀ (g : G) (i : Item), ds = [encG g, pairD i] → d = optD (behindI g i)
theorem ok_symbol_behind (T : Tb K mg) : Ok Pg w K mg base "symbol_behind" ["grammar", "item"] 2 spBehind := by
  have O_right_of := ok_right_of (Pg := Pg) (w := w) (base := base) T
  refine ok_def (k := 1) T.d_symbol_behind sc_symbol_behind (by decide) fun f cdv A outer s H E hr => ⟨_,
    (pss_cons (ps_set (i := 2) sc_symbol_behind.nd rfl (Or.inl rfl) (pe_callD O_right_of (hr.mono (by decide)) (by rfl) (pa_cons (pv 0) (pa_cons (pe_ix (k_ix K) (pv 1) pe_int (fun _ _ => rfl)) pa_nil))))
      (pss_one (ps_ret (pe_ifExp (pt_cmpR (k_lt K hr.units0) (pe_ix (k_ix K) (pv 1) pe_int (fun _ _ => rfl)) (pe_callB (k_len K) (by rfl) T.b_len (by decide +kernel) (pa_cons (pv 2) pa_nil)) (nomark _)) (pe_ix (k_ix K) (pv 2) (pe_ix (k_ix K) (pv 1) pe_int (fun _ _ => rfl)) (fun _ _ => rfl)) pe_non)))), fun ds _ hp => ?_⟩
  obtain ⟨g, i, rfl, h1, h2, h3, h4⟩ := hp
  refine q_setD (d := .tuple ((rightI g i.1).map .str)) (ev_fun (ea_cons (ev_var rfl) (ea_cons (ev_op (ev_var rfl) ev_int (rd_ixT atI0)) ea_nil)) ⟨g, i.1, rfl, h1, h2⟩ fun d h => h g i.1 rfl) ?_
  refine run_retD (d := optD (behindI g i)) (ev_if (b := decide (i.2 < (rightI g i.1).length)) (et_t (Ev.is (ev_op (ev_op (ev_var rfl) ev_int (rd_ixT atI1)) (ev_cb (ea_cons (ev_var rfl) ea_nil) rl_lenT) rd_ltI) (congrArg PyData.bool (by rw [List.length_map])))) (fun hb => ?_) fun hb => ?_) fun g' n' e => ?_
  · have hl : i.2 < (rightI g i.1).length := of_decide_eq_true hb
    have hl' : i.2.toNat < (rightI g i.1).length := by omega
    have e : behindI g i = some ((rightI g i.1)[i.2.toNat]) := List.getElem?_eq_getElem hl'
    rw [e]
    exact ev_op (ev_var rfl) (ev_op (ev_var rfl) ev_int (rd_ixT atI1)) (rd_ixT (atI_nat' h3 (by rw [List.getElem?_map, List.getElem?_eq_getElem hl'] <;> rfl)))
  · have hl : ¬ i.2 < (rightI g i.1).length := of_decide_eq_false hb
    have e : behindI g i = none := List.getElem?_eq_none (by omega)
    rw [e]
    exact ev_non
  · obtain ⟨a, b⟩ := two_inj e
    rw [rulesD_inj a, pairD_inj b]
abbrev spFitItem : Sp := spD 2 (fun ds => ∃ (g : G) (i : Item), ds = [encG g, pairD i] ∧ itemOk g i) Yes
theorem ok_fits_item (T : Tb K mg) : Ok Pg w K mg base "fits_item" ["grammar", "value"] 2 spFitItem := by
  have O_is_tuple_of := ok_is_tuple_of (Pg := Pg) (w := w) (base := base) T
  have O_is_whole := ok_is_whole (Pg := Pg) (w := w) (base := base) T
  have O_right_of := ok_right_of (Pg := Pg) (w := w) (base := base) T
  refine ok_def (k := 1) T.d_fits_item sc_fits_item (by decide) fun f cdv A outer s H E hr => ⟨_,
    (pss_cons (ps_if (PW.pt (pw_or (pt_not (pt_val (pe_callD O_is_tuple_of (hr.mono (by decide)) (by rfl) (pa_cons (pv 1) (pa_cons pe_int (pa_cons pe_int pa_nil)))))) (pw_or1 (pt_not (pt_val (pe_callD O_is_whole (hr.mono (by decide)) (by rfl) (pa_cons (pe_ix (k_ix K) (pv 1) pe_int (fun _ _ => rfl)) (pa_cons (pe_un un_neg pe_int) (pa_cons (pe_op op_sub (pe_callB (k_len K) (by rfl) T.b_len (by decide +kernel) (pa_cons (pe_ix (k_ix K) (pv 0) pe_int (fun _ _ => rfl)) pa_nil)) pe_int) pa_nil))))))))) (pss_one (ps_ret pe_bl)) pss_nil)
      (pss_one (ps_ret (pe_callD O_is_whole (hr.mono (by decide)) (by rfl) (pa_cons (pe_ix (k_ix K) (pv 1) pe_int (fun _ _ => rfl)) (pa_cons pe_int (pa_cons (pe_callB (k_len K) (by rfl) T.b_len (by decide +kernel) (pa_cons (pe_callD O_right_of (hr.mono (by decide)) (by rfl) (pa_cons (pv 0) (pa_cons (pe_ix (k_ix K) (pv 1) pe_int (fun _ _ => rfl)) pa_nil))) pa_nil)) pa_nil))))))), fun ds _ hp => ?_⟩
  obtain ⟨g, i, rfl, h1, h2, h3, h4⟩ := hp
  refine q_ifNo (b := false) (et_or0 (et_notB (et_b (ev_yes (ea_cons (ev_var rfl) (ea_cons ev_int (ea_cons ev_int ea_nil))) ⟨[.int i.1, .int i.2], 2, 2, rfl, by simp, by simp⟩)))
    (et_notB (et_b (ev_yes (ea_cons (ev_op (ev_var rfl) ev_int (rd_ixT atI0)) (ea_cons (ev_un ev_int rd_neg) (ea_cons (ev_op (ev_cb (ea_cons (ev_op (ev_var rfl) ev_int (rd_ixT atI2)) ea_nil) rl_lenT) ev_int rd_sub) ea_nil))) ⟨i.1, -1, _, rfl, h1, by rw [List.length_map]; omega⟩)))) rfl ?_
  exact run_retD (ev_yes (ea_cons (ev_op (ev_var rfl) ev_int (rd_ixT atI1)) (ea_cons ev_int (ea_cons (ev_cb (ea_cons (ev_fun (r := .tuple ((rightI g i.1).map .str)) (ea_cons (ev_var rfl) (ea_cons (ev_op (ev_var rfl) ev_int (rd_ixT atI0)) ea_nil)) ⟨g, i.1, rfl, h1, h2⟩ fun d h => h g i.1 rfl) ea_nil) rl_lenT) ea_nil))) ⟨i.2, 0, _, rfl, h3, by rw [List.length_map]; exact h4⟩) rfl
abbrev spFitItems : Sp := spD 2 (fun ds => ∃ (g : G) (l : List Item), ds = [encG g, .tuple (l.map pairD)] ∧ (∀ i ∈ l, itemOk g i) ∧ Asc ltP l ∧ l.length ≤ 700) Yes
theorem ok_fits_items (T : Tb K mg) : Ok Pg w K mg base "fits_items" ["grammar", "value"] 3 spFitItems := by
  have O_is_tuple_of := ok_is_tuple_of (Pg := Pg) (w := w) (base := base) T
  have O_fits_item := ok_fits_item (Pg := Pg) (w := w) (base := base) T
  have O_ascends := ok_ascends (Pg := Pg) (w := w) (base := base) T
  refine ok_def (k := 2) T.d_fits_items sc_fits_items (by decide) fun f cdv A outer s H E hr => ⟨_,
    (pss_one (ps_ret (pe_and (pe_callD O_is_tuple_of (hr.mono (by decide)) (by rfl) (pa_cons (pv 1) (pa_cons pe_int (pa_cons (pe_globI (by rfl) T.c_ITEMS) pa_nil)))) (pe_and (pe_callB (k_all K rfl) (by rfl) T.b_all (by decide +kernel) (pa_cons (pe_lc (own := [("one", 2)]) (g := gName 2) rfl sc_fits_items.nd (k_seq K (pv 1)) (blkOk_by (N := N_fits_items) (sc := defScope s_fits_items) (own := [("one", 2)]) (by decide +kernel)) (fun _ _ _ _ _ => (pg_name (i := 2) sc_fits_items.nd rfl (Or.inl rfl))) (fun _ _ _ _ _ => pts_nil) (fun _ _ _ _ _ => (pe_callD O_fits_item (hr.mono (by decide)) (by rfl) (pa_cons (pv 0) (pa_cons (pv 2) pa_nil))))) pa_nil)) (pe_one (pe_callD O_ascends (hr.mono (by decide)) (by rfl) (pa_cons (pv 1) pa_nil))))))), fun ds _ hp => ?_⟩
  obtain ⟨g, l, rfl, h1, h2, h3⟩ := hp
  have l2 : (l.map pairD).length = l.length := List.length_map ..
  refine run_retD (Ev.is (ev_and (ev_yes (ea_cons (ev_var rfl) (ea_cons ev_int (ea_cons ev_int ea_nil))) ⟨l.map pairD, 0, 729, rfl, by omega, by omega⟩) fun _ => ev_and (ev_all (ds := l.map pairD) (ev_lcN (wk_tup (ev_var rfl)) (fun _ => .bool true) (by omega) fun d hd => ?_)) fun _ => ev_yes (ea_cons (ev_var rfl) ea_nil) (.inr ⟨l, rfl, h2, by omega⟩)) rfl) rfl
  obtain ⟨i, hi, rfl⟩ := List.mem_map.mp hd
  exact ev_yes (ea_cons (ev_var rfl) (ea_cons (ev_var rfl) ea_nil)) ⟨g, i, rfl, h1 i hi⟩
abbrev spNeedI : Sp := spD 2 (fun ds => ∃ (g : G) (l : List Item), ds = [encG g, .tuple (l.map pairD)] ∧ (∀ i ∈ l, itemOk g i) ∧ Asc ltP l ∧ l.length ≤ 700) isNone
theorem ok_need_items (T : Tb K mg) : Ok Pg w K mg base "need_items" ["grammar", "value"] 4 spNeedI := by
  have O_fits_items := ok_fits_items (Pg := Pg) (w := w) (base := base) T
  refine ok_def (k := 3) T.d_need_items sc_need_items (by decide) fun f cdv A outer s H E hr => ⟨_,
    (pss_one (ps_if (pt_not (pt_val (pe_callD O_fits_items (hr.mono (by decide)) (by rfl) (pa_cons (pv 0) (pa_cons (pv 1) pa_nil))))) (pss_one ps_never) pss_nil)), fun ds _ hp => ?_⟩
  exact run_if (B := fun b => b = false) (et_notB (et_b (ev_yes (ds := ds) (by
    obtain ⟨g, l, rfl, _⟩ := hp
    exact ea_cons (ev_var rfl) (ea_cons (ev_var rfl) ea_nil)) hp (by
    obtain ⟨g, l, rfl, _⟩ := hp
    rfl)))) (fun z => by cases z) fun _ => run_next rfl
end
end Sh

set_option maxHeartbeats 4000000
/-! Layer O: all items. -/
namespace Sh
open PySem PySem.Spec PyProof.Rows L2
/-- all items, in order -/
def itemsFrom (g : G) (r : Int) : List Item := (List.range ((rightI g r).length + 1)).map fun p => (r, ((p : Nat) : Int))
def allIt (g : G) : List Item := (List.range (g.rules.length + 1)).flatMap fun r => itemsFrom g (-1 + ((r : Nat) : Int))
theorem mem_allIt {g : G} {i : Item} : i ∈ allIt g ↔ itemOk g i := by
  unfold allIt itemsFrom itemOk
  rw [List.mem_flatMap]
  constructor
  · rintro ⟨r, hr, hi⟩
    obtain ⟨p, hp, rfl⟩ := List.mem_map.mp hi
    have h1 := List.mem_range.mp hr
    have h2 := List.mem_range.mp hp
    refine ⟨?_, ?_, ?_, ?_⟩ <;> simp only <;> omega
  · rintro ⟨h1, h2, h3, h4⟩
    have e : (-1 : Int) + ((i.1 + 1).toNat : Int) = i.1 := by omega
    refine ⟨(i.1 + 1).toNat, List.mem_range.mpr (by omega), ?_⟩
    rw [e]
    exact List.mem_map.mpr ⟨i.2.toNat, List.mem_range.mpr (by omega), Prod.ext rfl (by show ((i.2.toNat : Nat) : Int) = i.2; omega)⟩
theorem asc_range (n : Nat) (f : Nat → Item) (h : ∀ a b, a < b → ltP (f a) (f b) = true) : Asc ltP ((List.range n).map f) := by
  refine List.pairwise_map.mpr (List.Pairwise.imp (fun {a b} hab => h a b hab) ?_)
  first | exact List.pairwise_lt_range | exact List.pairwise_lt_range _
theorem asc_allIt (g : G) : Asc ltP (allIt g) := by
  unfold allIt Asc
  rw [List.pairwise_flatMap]
  refine ⟨fun r hr => asc_range _ _ fun a b hab => ?_, List.Pairwise.imp (fun {a b} hab x hx y hy => ?_) (by first | exact List.pairwise_lt_range | exact List.pairwise_lt_range _)⟩
  · refine decide_eq_true (.inr ⟨rfl, ?_⟩)
    show ((a : Nat) : Int) < (b : Nat)
    omega
  · obtain ⟨p, _, rfl⟩ := List.mem_map.mp hx
    obtain ⟨q, _, rfl⟩ := List.mem_map.mp hy
    refine decide_eq_true (.inl ?_)
    show -1 + ((a : Nat) : Int) < -1 + ((b : Nat) : Int)
    omega
theorem len_flat {α β : Type} (f : α → List β) {k : Nat} : ∀ l : List α, (∀ x ∈ l, (f x).length ≤ k) → (l.flatMap f).length ≤ l.length * k
  | [], _ => by simp
  | x :: l, h => by
    have h1 := h x List.mem_cons_self
    have h2 := len_flat f l fun y hy => h y (List.mem_cons_of_mem _ hy)
    rw [List.flatMap_cons, List.length_append, List.length_cons, Nat.succ_mul]
    omega
theorem right_len {g : G} (V : Valid g) (n : Int) : (rightI g n).length ≤ 4 := by
  unfold rightI
  by_cases c : n < 0
  · rw [if_pos c]
    simp
  · rw [if_neg c]
    cases e : g.rules[n.toNat]? with
    | none => simp
    | some r => exact (ruleB_ok (V.rule r (List.mem_of_getElem? e))).2.1
theorem len_allIt {g : G} (V : Valid g) : (allIt g).length ≤ 65 := by
  have h := len_flat (fun r => itemsFrom g (-1 + ((r : Nat) : Int))) (k := 5) (List.range (g.rules.length + 1)) fun r _ => by
    have := right_len V (-1 + ((r : Nat) : Int))
    show ((List.range _).map _).length ≤ 5
    rw [List.length_map, List.length_range]
    omega
  rw [List.length_range] at h
  have := V.r2
  show ((List.range (g.rules.length + 1)).flatMap fun r => itemsFrom g (-1 + ((r : Nat) : Int))).length ≤ 65
  omega
section
variable {Pg : Program} {w : World} {K : PySem.W.Frag} {mg : Str → Option Value} {base : Heap}
theorem allIt_data (g : G) : ((rgD (-1) g.rules.length).flatMap fun x => (numD ((rightI g (intOf x)).length + 1)).map fun y => PyData.tuple [x, y]) = (allIt g).map pairD := by
  unfold rgD allIt
  have e : ((g.rules.length : Int) - -1).toNat = g.rules.length + 1 := by omega
  rw [e, List.flatMap_map, List.map_flatMap]
  refine congrArg (fun f => List.flatMap f _) (funext fun r => ?_)
  unfold itemsFrom numD
  rw [List.map_map, List.map_map] <;> rfl
abbrev spAllItems : Sp := spD 1 (fun ds => ∃ g : G, ds = [encG g] ∧ Valid g) fun ds d => ∀ g : G, ds = [encG g] → d = .list ((allIt g).map pairD)
theorem ok_all_items (T : Tb K mg) : Ok Pg w K mg base "all_items" ["grammar"] 2 spAllItems := by
  have O_right_of := ok_right_of (Pg := Pg) (w := w) (base := base) T
  refine ok_def (k := 1) T.d_all_items sc_all_items (by decide) fun f cdv A outer s H E hr => ⟨_,
    (pss_cons (ps_set (i := 1) sc_all_items.nd rfl (Or.inl rfl) (pe_callTy cr_rangeA (by rfl) T.b_range (by decide +kernel) (pa_cons (pe_un un_neg pe_int) (pa_cons (pe_callB (k_len K) (by rfl) T.b_len (by decide +kernel) (pa_cons (pe_ix (k_ix K) (pv 0) pe_int (fun _ _ => rfl)) pa_nil)) pa_nil))))
      (pss_one (ps_ret (pe_lc2 (own := [("rule", 2), ("place", 3)]) (g := gName 2) (g1 := gName 3) (vs1 := [3]) rfl sc_all_items.nd (pi_rngV (pv 1)) (blkOk_by (N := N_all_items) (sc := defScope s_all_items) (own := [("rule", 2), ("place", 3)]) (by decide +kernel)) (by decide) (fun _ _ _ _ _ => (pg_name (i := 2) sc_all_items.nd rfl (Or.inl rfl))) (fun _ _ _ _ _ => pts_nil) (fun _ _ _ _ _ => (pi_range1 (by rfl) T.b_range (pa_cons (pe_op op_addA (pe_callB (k_len K) (by rfl) T.b_len (by decide +kernel) (pa_cons (pe_callD O_right_of (hr.mono (by decide)) (by rfl) (pa_cons (pv 0) (pa_cons (pv 2) pa_nil))) pa_nil)) pe_int) pa_nil))) (fun _ _ _ _ _ => (pg_name (i := 3) sc_all_items.nd rfl (Or.inl rfl))) (fun _ _ _ _ _ => pts_nil) (fun _ _ _ _ _ => (pe_tup (pa_cons (pv 2) (pa_cons (pv 3) pa_nil)))))))), fun ds _ hp => ?_⟩
  obtain ⟨g, rfl, V⟩ := hp
  have l2 : (g.rules.map encR).length = g.rules.length := List.length_map ..
  have lr2 := V.r2
  refine q_rng (lo := -1) (hi := g.rules.length) (ea_cons (ev_un ev_int rd_neg) (ea_cons (Ev.is (ev_cb (ea_cons (ev_op (ev_var rfl) ev_int (rd_ixT atI2)) ea_nil) rl_lenT) (by rw [l2])) ea_nil)) ?_
  refine run_retD (d := .list ((allIt g).map pairD)) (Ev.is (ev_lc2N (wk_rngI (lo := -1) (hi := g.rules.length) rfl (by omega) (by omega)) (fun x => numD ((rightI g (intOf x)).length + 1)) (fun x y => .tuple [x, y]) (by simp [rgD]; omega) (fun x _ => ?_) (fun x hx => ?_) fun x hx y hy => ev_tup (ea_cons (ev_var rfl) (ea_cons (ev_var rfl) ea_nil)) (by simp)) (congrArg PyData.list (allIt_data g))) fun g' e => ?_
  · rw [numD_len]
    have := right_len V (intOf x)
    omega
  · obtain ⟨r, hr, rfl⟩ := List.mem_map.mp hx
    have hr' := List.mem_range.mp hr
    have b1 : (-1 : Int) ≤ -1 + (r : Int) := by omega
    have b2 : (-1 : Int) + (r : Int) < g.rules.length := by omega
    have lr := right_len V (-1 + (r : Int))
    exact wk_num (ea_cons (Ev.is (ev_op (ev_cb (ea_cons (ev_fun (r := .tuple ((rightI g (-1 + (r : Int))).map .str)) (ea_cons (ev_var rfl) (ea_cons (ev_var rfl) ea_nil)) ⟨g, -1 + (r : Int), rfl, b1, b2⟩ fun d h => h g _ rfl) ea_nil) rl_lenT) ev_int rd_addI) (by rw [List.length_map] <;> rfl)) ea_nil) (by show (rightI g (-1 + (r : Int))).length + 1 ≤ 1000; omega)
  · have e' : encG g = encG g' := by simpa using e
    rw [rulesD_inj e']
abbrev spItemsOf : Sp := spD 1 (fun ds => ∃ g : G, ds = [encG g] ∧ Valid g) fun ds d => ∀ g : G, ds = [encG g] → d = .tuple ((allIt g).map pairD)
theorem ok_items_of (T : Tb K mg) : Ok Pg w K mg base "items_of" ["grammar"] 6 spItemsOf := by
  have O_need_grammar := ok_need_grammar (Pg := Pg) (w := w) (base := base) T
  have O_all_items := ok_all_items (Pg := Pg) (w := w) (base := base) T
  refine ok_def (k := 5) T.d_items_of sc_items_of (by decide) fun f cdv A outer s H E hr => ⟨_,
    (pss_cons (ps_expr (pe_callD O_need_grammar (hr.mono (by decide)) (by rfl) (pa_cons (pv 0) pa_nil)))
      (pss_one (ps_ret (pe_callTy (k_tuple K) (by rfl) T.b_tuple (by decide +kernel) (pa_cons (pe_callD O_all_items (hr.mono (by decide)) (by rfl) (pa_cons (pv 0) pa_nil)) pa_nil))))), fun ds _ hp => ?_⟩
  obtain ⟨g, rfl, V⟩ := hp
  refine q_drop (ev_fun (r := .none) (ea_cons (ev_var rfl) ea_nil) ⟨g, rfl, V⟩ fun d h => h) ?_
  refine run_retD (d := .tuple ((allIt g).map pairD)) (ev_cb (ea_cons (ev_fun (r := .list ((allIt g).map pairD)) (ea_cons (ev_var rfl) ea_nil) ⟨g, rfl, V⟩ fun d h => h g rfl) ea_nil) rl_tuple) fun g' e => ?_
  have e' : encG g = encG g' := by simpa using e
  rw [rulesD_inj e']
end
end Sh

set_option maxHeartbeats 4000000
/-! Layer Q: closed items in plain words: by a line, turn by turn, one and the same. -/
namespace Sh
open PySem PySem.Spec PyProof.Rows L2
/-- what must stand in the closed items -/
inductive Cl (g : G) (S : List Item) : Item → Prop
  | base {i : Item} : i ∈ S → Cl g S i
  | step {i : Item} {r : Int} : Cl g S i → r ∈ rulesO g (behindI g i) → Cl g S (r, 0)
theorem mem_rulesO {g : G} {x : Option Str} {r : Int} : r ∈ rulesO g x ↔ ∃ n : Nat, r = n ∧ n < g.rules.length ∧ (g.rules[n]?).map (·.1) = x := by
  unfold rulesO
  rw [List.mem_map]
  constructor
  · rintro ⟨n, hn, rfl⟩
    rw [List.mem_filter, List.mem_range, decide_eq_true_eq] at hn
    exact ⟨n, rfl, hn.1, hn.2⟩
  · rintro ⟨n, rfl, h1, h2⟩
    exact ⟨n, by rw [List.mem_filter, List.mem_range, decide_eq_true_eq]; exact ⟨h1, h2⟩, rfl⟩
theorem cl_ok {g : G} {S : List Item} (hS : ∀ i ∈ S, itemOk g i) {i : Item} (h : Cl g S i) : itemOk g i := by
  induction h with
  | base h => exact hS _ h
  | step _ hr _ =>
    obtain ⟨n, rfl, hn, _⟩ := mem_rulesO.mp hr
    refine ⟨?_, ?_, Int.le_refl _, ?_⟩
    · show (-1 : Int) ≤ (n : Int)
      omega
    · show (n : Int) < g.rules.length
      omega
    · show (0 : Int) ≤ ((rightI g _).length : Int)
      omega
theorem cl_sub {g : G} {S S' : List Item} (h : ∀ i ∈ S, Cl g S' i) {i : Item} (c : Cl g S i) : Cl g S' i := by
  induction c with
  | base hi => exact h _ hi
  | step _ hr ih => exact .step ih hr

/-! ### turn by turn -/
def newI (g : G) (F : List Item) : List Nat := (List.range g.rules.length).filter fun r => decide (((g.rules[r]?).map (·.1)) ∈ F.map (behindI g)) && !decide (((r : Int), (0 : Int)) ∈ F)
def turnI (g : G) (F : List Item) : List Item := F ++ (newI g F).map fun (r : Nat) => ((r : Int), (0 : Int))
def turnsI (g : G) : Nat → List Item → List Item
  | 0, F => F
  | k + 1, F => turnI g (turnsI g k F)
def clT (g : G) (S : List Item) : List Item := canonC ltP (turnsI g (g.rules.length + 1) S)
theorem mem_newI {g : G} {F : List Item} {r : Nat} : r ∈ newI g F ↔ r < g.rules.length ∧ ((g.rules[r]?).map (·.1)) ∈ F.map (behindI g) ∧ ((r : Int), (0 : Int)) ∉ F := by
  unfold newI
  rw [List.mem_filter, List.mem_range, Bool.and_eq_true, Bool.not_eq_true', decide_eq_true_eq, decide_eq_false_iff_not]
theorem turns_cl {g : G} {S : List Item} : ∀ k, ∀ i ∈ turnsI g k S, Cl g S i
  | 0, i, h => .base h
  | k + 1, i, h => by
    rcases List.mem_append.mp (show i ∈ turnsI g k S ++ _ from h) with h | h
    · exact turns_cl k i h
    · obtain ⟨r, hr, rfl⟩ := List.mem_map.mp h
      obtain ⟨h1, h2, _⟩ := mem_newI.mp hr
      obtain ⟨j, hj, e⟩ := List.mem_map.mp h2
      exact .step (turns_cl k j hj) (mem_rulesO.mpr ⟨r, rfl, h1, e.symm⟩)
theorem turns_sub {g : G} {S : List Item} : ∀ k, ∀ i ∈ S, i ∈ turnsI g k S
  | 0, i, h => h
  | k + 1, i, h => List.mem_append_left _ (turns_sub k i h)
theorem filter_lt {α : Type} {p q : α → Bool} : ∀ l : List α, (∀ x ∈ l, p x = true → q x = true) → (∃ x ∈ l, q x = true ∧ p x = false) → (l.filter p).length < (l.filter q).length
  | [], _, h => by
    obtain ⟨x, hx, _⟩ := h
    cases hx
  | x :: l, h, ⟨y, hy, hq, hp⟩ => by
    have le : ∀ l : List α, (∀ x ∈ l, p x = true → q x = true) → (l.filter p).length ≤ (l.filter q).length := by
      intro l
      induction l with
      | nil => exact fun _ => Nat.le_refl _
      | cons x l ih =>
        intro h
        have h1 := ih fun y hy => h y (List.mem_cons_of_mem _ hy)
        rw [List.filter_cons, List.filter_cons]
        cases e : p x with
        | true =>
          rw [h x List.mem_cons_self e]
          simp only [if_true, List.length_cons]
          omega
        | false =>
          simp only [Bool.false_eq_true, if_false]
          split
          · rw [List.length_cons]
            omega
          · exact h1
    rw [List.filter_cons, List.filter_cons]
    rcases List.mem_cons.mp hy with e | hy
    · subst e
      rw [hp, hq]
      have h1 := le l fun z hz => h z (List.mem_cons_of_mem _ hz)
      simp only [if_true, Bool.false_eq_true, if_false, List.length_cons]
      omega
    · have h1 := filter_lt l (fun z hz => h z (List.mem_cons_of_mem _ hz)) ⟨y, hy, hq, hp⟩
      cases e : p x with
      | true =>
        rw [h x List.mem_cons_self e]
        simp only [if_true, List.length_cons]
        omega
      | false =>
        simp only [Bool.false_eq_true, if_false]
        split
        · rw [List.length_cons]
          omega
        · exact h1
def cntI (g : G) (F : List Item) : Nat := ((List.range g.rules.length).filter fun (r : Nat) => decide (((r : Int), (0 : Int)) ∈ F)).length
theorem cntI_le (g : G) (F : List Item) : cntI g F ≤ g.rules.length := by
  have h := List.length_filter_le (fun (r : Nat) => decide (((r : Int), (0 : Int)) ∈ F)) (List.range g.rules.length)
  rw [List.length_range] at h
  exact h
theorem turns_fix {g : G} {S : List Item} : ∀ k, newI g (turnsI g k S) = [] ∨ k ≤ cntI g (turnsI g k S)
  | 0 => .inr (Nat.zero_le _)
  | k + 1 => by
    by_cases e : newI g (turnsI g k S) = []
    · left
      have q : turnsI g (k + 1) S = turnsI g k S := by
        show turnsI g k S ++ (newI g (turnsI g k S)).map _ = _
        rw [e]
        simp
      rw [q]
      exact e
    · right
      have h : k ≤ cntI g (turnsI g k S) := (turns_fix k).resolve_left e
      refine Nat.succ_le_of_lt (Nat.lt_of_le_of_lt h ?_)
      obtain ⟨r, hr⟩ := List.exists_mem_of_ne_nil _ e
      obtain ⟨h1, h2, h3⟩ := mem_newI.mp hr
      refine filter_lt _ (fun x _ hx => ?_) ⟨r, List.mem_range.mpr h1, ?_, ?_⟩
      · rw [decide_eq_true_eq] at hx ⊢
        exact List.mem_append_left _ hx
      · rw [decide_eq_true_eq]
        exact List.mem_append_right _ (List.mem_map.mpr ⟨r, hr, rfl⟩)
      · rw [decide_eq_false_iff_not]
        exact h3
theorem turns_end (g : G) (S : List Item) : newI g (turnsI g (g.rules.length + 1) S) = [] := by
  rcases turns_fix (g := g) (S := S) (g.rules.length + 1) with h | h
  · exact h
  · have := cntI_le g (turnsI g (g.rules.length + 1) S)
    omega
theorem fix_closed {g : G} {F S : List Item} (h : newI g F = []) (hS : ∀ i ∈ S, i ∈ F) {i : Item} (c : Cl g S i) : i ∈ F := by
  induction c with
  | base hi => exact hS _ hi
  | @step i r _ hr ih =>
    obtain ⟨n, rfl, hn, e⟩ := mem_rulesO.mp hr
    rcases Classical.em ((((n : Nat) : Int), (0 : Int)) ∈ F) with z | z
    · exact z
    · exfalso
      have : n ∈ newI g F := mem_newI.mpr ⟨hn, List.mem_map.mpr ⟨i, ih, e.symm⟩, z⟩
      rw [h] at this
      cases this
theorem mem_turns {g : G} {S : List Item} {i : Item} : i ∈ turnsI g (g.rules.length + 1) S ↔ Cl g S i :=
  ⟨turns_cl _ i, fix_closed (turns_end g S) (turns_sub _)⟩
theorem mem_clT {g : G} {S : List Item} {i : Item} : i ∈ clT g S ↔ Cl g S i := (mem_canonC totP _).trans mem_turns
theorem asc_clT (g : G) (S : List Item) : Asc ltP (clT g S) := asc_canonC totP _
theorem clT_of {g : G} {S L : List Item} (h1 : Asc ltP L) (h2 : ∀ i, i ∈ L ↔ Cl g S i) : L = clT g S := asc_uniq totP _ _ h1 (asc_clT g S) fun i => (h2 i).trans mem_clT.symm
theorem clT_again (g : G) (S : List Item) : clT g (clT g S) = clT g S := (clT_of (asc_clT g S) fun i => ⟨.base, fun c => mem_clT.mpr (cl_sub (fun j hj => mem_clT.mp hj) c)⟩).symm
theorem clT_all (g : G) : clT g (allIt g) = allIt g := (clT_of (asc_allIt g) fun i => ⟨.base, fun c => mem_allIt.mpr (cl_ok (fun j hj => mem_allIt.mp hj) c)⟩).symm
theorem clT_ok {g : G} {S : List Item} (hS : ∀ i ∈ S, itemOk g i) : ∀ i ∈ clT g S, itemOk g i := fun i hi => cl_ok hS (mem_clT.mp hi)
theorem clT_sub {g : G} {S : List Item} : ∀ i ∈ S, i ∈ clT g S := fun i hi => mem_clT.mpr (.base hi)

/-! ### how many -/
theorem asc_nodup {α : Type} {lt : α → α → Bool} (T : TotL lt) {l : List α} (h : Asc lt l) : l.Nodup := List.Pairwise.imp (fun {a b} hab e => by
  rw [e, T.irr] at hab
  cases hab) h
theorem nodup_len {α : Type} [DecidableEq α] : ∀ (l D : List α), l.Nodup → (∀ x ∈ l, x ∈ D) → l.length ≤ D.length
  | [], _, _, _ => Nat.zero_le _
  | x :: l, D, hn, hs => by
    obtain ⟨h1, h2⟩ := List.nodup_cons.mp hn
    have hx : x ∈ D := hs x List.mem_cons_self
    have ih := nodup_len l (D.erase x) h2 fun y hy => (List.mem_erase_of_ne fun e => h1 (by rw [← e]; exact hy)).2 (hs y (List.mem_cons_of_mem _ hy))
    have e := List.length_erase_of_mem hx
    have hp : 0 < D.length := List.length_pos_of_mem hx
    rw [List.length_cons]
    omega
theorem few_allIt {g : G} (V : Valid g) : (allIt g).length ≤ 62 := by
  have e : allIt g = itemsFrom g (-1) ++ (List.range g.rules.length).flatMap fun r => itemsFrom g (-1 + ((r + 1 : Nat) : Int)) := by
    unfold allIt
    rw [List.range_succ_eq_map, List.flatMap_cons, List.flatMap_map] <;> rfl
  have h := len_flat (fun r => itemsFrom g (-1 + ((r + 1 : Nat) : Int))) (k := 5) (List.range g.rules.length) fun r _ => by
    have := right_len V (-1 + ((r + 1 : Nat) : Int))
    show ((List.range _).map _).length ≤ 5
    rw [List.length_map, List.length_range]
    omega
  have h1 : (itemsFrom g (-1)).length = 2 := by
    show ((List.range ((rightI g (-1)).length + 1)).map _).length = 2
    rw [List.length_map, List.length_range] <;> rfl
  rw [List.length_range] at h
  have := V.r2
  rw [e, List.length_append, h1]
  omega
theorem turn_nodup {g : G} {F : List Item} (h : F.Nodup) : (turnI g F).Nodup := by
  unfold turnI
  rw [List.nodup_append]
  refine ⟨h, nodup_map_inj (fun a b e => by
    have e' : ((a : Nat) : Int) = (b : Nat) := congrArg Prod.fst e
    omega) (List.Pairwise.filter _ List.nodup_range), fun a ha b hb e => ?_⟩
  obtain ⟨r, hr, rfl⟩ := List.mem_map.mp hb
  rw [e] at ha
  exact (mem_newI.mp hr).2.2 ha
theorem turns_nodup {g : G} {S : List Item} (h : S.Nodup) : ∀ k, (turnsI g k S).Nodup
  | 0 => h
  | k + 1 => turn_nodup (turns_nodup h k)
theorem turns_few {g : G} (V : Valid g) {S : List Item} (h : S.Nodup) (hS : ∀ i ∈ S, itemOk g i) (k : Nat) : (turnsI g k S).length ≤ 62 :=
  Nat.le_trans (nodup_len _ (allIt g) (turns_nodup h k) fun i hi => mem_allIt.mpr (cl_ok hS (turns_cl k i hi))) (few_allIt V)
theorem clT_few {g : G} (V : Valid g) {S : List Item} (hS : ∀ i ∈ S, itemOk g i) : (clT g S).length ≤ 62 :=
  Nat.le_trans (nodup_len _ (allIt g) (asc_nodup totP (asc_clT g S)) fun i hi => mem_allIt.mpr (clT_ok hS i hi)) (few_allIt V)
end Sh

set_option maxHeartbeats 4000000
/-! Layer R: closed_by, closed. -/
namespace Sh
open PySem PySem.Spec PyProof.Rows L2

/-! ### the line, in plain words -/
structure Ln (g : G) (S fs ln : List Item) : Prop where
  nd : fs.Nodup
  c1 : ∀ i ∈ fs, Cl g S i
  c2 : ∀ i ∈ ln, Cl g S i
  s : ∀ i ∈ S, i ∈ fs ∨ i ∈ ln
  st : ∀ i ∈ fs, ∀ r ∈ rulesO g (behindI g i), (r, 0) ∈ fs ∨ (r, 0) ∈ ln
def nextI (g : G) (i : Item) : List Item := (rulesO g (behindI g i)).map fun r => (r, 0)
theorem Ln.init (g : G) (S : List Item) : Ln g S [] S := ⟨List.nodup_nil, fun i h => (by cases h), fun i h => .base h, fun i h => .inr h, fun i h => (by cases h)⟩
theorem Ln.skip {g : G} {S fs ln : List Item} {i : Item} (h : Ln g S fs (ln ++ [i])) (hi : i ∈ fs) : Ln g S fs ln := by
  have r : ∀ j, j ∈ fs ∨ j ∈ ln ++ [i] → j ∈ fs ∨ j ∈ ln := fun j hj => by
    rcases hj with z | z
    · exact .inl z
    · rcases List.mem_append.mp z with z | z
      · exact .inr z
      · rw [List.mem_singleton.mp z]
        exact .inl hi
  exact ⟨h.nd, h.c1, fun j hj => h.c2 j (List.mem_append_left _ hj), fun j hj => r j (h.s j hj), fun j hj q hq => r _ (h.st j hj q hq)⟩
theorem Ln.add {g : G} {S fs ln : List Item} {i : Item} (h : Ln g S fs (ln ++ [i])) (hi : i ∉ fs) : Ln g S (fs ++ [i]) (ln ++ nextI g i) := by
  have ci := h.c2 i (List.mem_append_right _ (List.mem_singleton.mpr rfl))
  have r : ∀ j, j ∈ fs ∨ j ∈ ln ++ [i] → j ∈ fs ++ [i] ∨ j ∈ ln ++ nextI g i := fun j hj => by
    rcases hj with z | z
    · exact .inl (List.mem_append_left _ z)
    · rcases List.mem_append.mp z with z | z
      · exact .inr (List.mem_append_left _ z)
      · exact .inl (List.mem_append_right _ z)
  refine ⟨?_, fun j hj => ?_, fun j hj => ?_, fun j hj => r j (h.s j hj), fun j hj q hq => ?_⟩
  · rw [List.nodup_append]
    refine ⟨h.nd, by simp, fun a ha b hb e => hi ?_⟩
    rw [List.mem_singleton.mp hb] at e
    rw [← e]
    exact ha
  · rcases List.mem_append.mp hj with z | z
    · exact h.c1 j z
    · rw [List.mem_singleton.mp z]
      exact ci
  · rcases List.mem_append.mp hj with z | z
    · exact h.c2 j (List.mem_append_left _ z)
    · obtain ⟨q, hq, rfl⟩ := List.mem_map.mp z
      exact .step ci hq
  · rcases List.mem_append.mp hj with z | z
    · exact r _ (h.st j z q hq)
    · rw [List.mem_singleton.mp z] at hq
      exact .inr (List.mem_append_right _ (List.mem_map.mpr ⟨q, hq, rfl⟩))
theorem Ln.fin {g : G} {S fs : List Item} (h : Ln g S fs []) {i : Item} : i ∈ fs ↔ Cl g S i := by
  refine ⟨h.c1 i, fun c => ?_⟩
  induction c with
  | base hi => exact (h.s _ hi).resolve_right (by simp)
  | step _ hr ih => exact (h.st _ ih _ hr).resolve_right (by simp)
theorem Ln.few {g : G} (V : Valid g) {S fs ln : List Item} (hS : ∀ i ∈ S, itemOk g i) (h : Ln g S fs ln) : fs.length ≤ 62 :=
  Nat.le_trans (nodup_len _ (allIt g) h.nd fun i hi => mem_allIt.mpr (cl_ok hS (h.c1 i hi))) (few_allIt V)
theorem next_len {g : G} (V : Valid g) (i : Item) : (nextI g i).length ≤ 12 := by
  unfold nextI rulesO
  rw [List.length_map, List.length_map]
  have h := List.length_filter_le (fun r => decide ((g.rules[r]?).map (·.1) = behindI g i)) (List.range g.rules.length)
  rw [List.length_range] at h
  have := V.r2
  omega
theorem fin_sort {g : G} {S fs : List Item} (h : Ln g S fs []) : fs.mergeSort (fun x y => decide (x.1 < y.1 ∨ (x.1 = y.1 ∧ x.2 ≤ y.2))) = clT g S := by
  have e : (fun x y : Item => decide (x.1 < y.1 ∨ (x.1 = y.1 ∧ x.2 ≤ y.2))) = fun x y => !ltP y x := by
    funext x y
    unfold ltP
    by_cases c : y.1 < x.1 ∨ (y.1 = x.1 ∧ y.2 < x.2)
    · have c' : ¬ (x.1 < y.1 ∨ (x.1 = y.1 ∧ x.2 ≤ y.2)) := by omega
      simp [c, c']
    · have c' : x.1 < y.1 ∨ (x.1 = y.1 ∧ x.2 ≤ y.2) := by omega
      simp [c, c']
  rw [e]
  exact sort_canon totP h.nd fun i => h.fin.trans mem_turns.symm

/-! ### data -/
theorem shaped_pairs (l : List Item) : SeqAt.shaped (.list (l.map pairD)) = true := by
  have h1 : PyData.canLayAll0 (l.map pairD) = true := by
    induction l with
    | nil => rfl
    | cons p l ih =>
      show (PyData.canLay0 (pairD p) && PyData.canLayAll0 (l.map pairD)) = true
      rw [ih] <;> rfl
  have h2 : PyData.depthAll (l.map pairD) ≤ 1 := by
    clear h1
    induction l with
    | nil => simp [PyData.depthAll]
    | cons p l ih =>
      rw [List.map_cons, PyData.depthAll]
      have : (pairD p).depth = 1 := by simp [pairD, PyData.depth, PyData.depthAll]
      omega
  unfold SeqAt.shaped
  rw [Bool.and_eq_true]
  refine ⟨h1, decide_eq_true ?_⟩
  simp only [PyData.depth]
  omega
theorem eqv_nil (l : List Item) : PyData.eqv (.list (l.map pairD)) (.list []) = l.isEmpty := by
  cases l <;> simp [PyData.eqv, PyData.eqvAll]
theorem rps_pair {M : Addr → Prop} {H : Hp} {v : V} {i : Item} (r : Rp M H v (pairD i)) : ∃ b, v = .ref b ∧ ¬ M b ∧ H b = some (.tup [.int i.1, .int i.2]) := by
  have r' : Rp M H v (.tuple [.int i.1, .int i.2]) := r
  cases r' with
  | tup n e s =>
    cases s with
    | cons s1 t1 =>
      cases t1 with
      | cons s2 t2 =>
        cases t2
        cases s1
        cases s2
        exact ⟨_, rfl, n, e⟩
theorem Rps.last {M : Addr → Prop} {H : Hp} {xs : List V} {ds : List PyData} {d : PyData} (r : Rps M H xs (ds ++ [d])) : ∃ y, xs[xs.length - 1]? = some y ∧ Rp M H y d ∧ Rps M H xs.dropLast ds := by
  have hl := r.length
  rw [List.length_append, List.length_singleton] at hl
  obtain ⟨y, h1, h2⟩ := r.get (i := ds.length) (d := d) (by rw [List.getElem?_append_right (Nat.le_refl _), Nat.sub_self] <;> rfl)
  refine ⟨y, by rw [hl]; simpa using h1, h2, ?_⟩
  have h3 := r.take ds.length
  rw [List.take_append_of_le_length (Nat.le_refl _), List.take_length] at h3
  rw [List.dropLast_eq_take, hl]
  simpa using h3
theorem valV_found {kvs : List (List Key × V)} {fs : List Item} (h : kvs.map (·.1) = fs.map pairK) (i : Item) : (valV kvs (pairK i)).isSome = decide (i ∈ fs) := by
  have inj : ∀ a b : Item, pairK a = pairK b → a = b := fun a b e => by
    simp only [pairK, List.cons.injEq, Sum.inl.injEq, and_true] at e
    exact Prod.ext e.1 e.2
  cases e : valV kvs (pairK i) with
  | none =>
    have n := valV_not e
    rw [h] at n
    rw [decide_eq_false fun z => n (List.mem_map.mpr ⟨i, z, rfl⟩)] <;> rfl
  | some v =>
    have n := valV_in e
    rw [h] at n
    obtain ⟨j, hj, ej⟩ := List.mem_map.mp n
    rw [decide_eq_true (by rw [← inj _ _ ej]; exact hj)] <;> rfl
end Sh

set_option maxHeartbeats 4000000
/-! Layer S: closed_by walked, closed. -/
namespace Sh
open PySem PySem.Spec PyProof.Rows L2
section
variable {M : Addr → Prop} {H : Hp} {dd ll : Addr}
/-- the two things of closed_by behind M -/
abbrev plus2 (M : Addr → Prop) (dd ll : Addr) : Addr → Prop := fun a => M a ∨ a = dd ∨ a = ll
/-- a write at one of M's addresses -/
theorem wd_upd {M : Addr → Prop} {H : Hp} {a : Addr} {o : HO} (w : Wd none M H) (ho : ∀ xs, o ≠ .tup xs) : Wd none M (upd H a o) where
  trk := fun b m => by
    by_cases z : b = a
    · rw [z, upd_same]
      exact fun q => nomatch q
    · rw [upd_ne z]
      exact w.trk b m
  cup := fun _ e => nomatch e
  mu := fun b xs m => by
    by_cases z : b = a
    · rw [z, upd_same]
      exact fun q => ho xs (Option.some.inj q)
    · rw [upd_ne z]
      exact w.mu b xs m
theorem Rp.upd {M : Addr → Prop} {H : Hp} {a : Addr} {o : HO} {v : V} {d : PyData} (m : M a) (r : Rp M H v d) : Rp M (L2.upd H a o) v d :=
  Rp.mono (fun _ _ h _ => h) (fun b u n e => by
    rw [upd_ne fun z => n (by rw [z]; exact m)]
    exact e) d r
theorem Rps.upd {M : Addr → Prop} {H : Hp} {a : Addr} {o : HO} {vs : List V} {ds : List PyData} (m : M a) (r : Rps M H vs ds) : Rps M (L2.upd H a o) vs ds :=
  Rps.mono (fun _ _ h _ => h) (fun b u n e => by
    rw [upd_ne fun z => n (by rw [z]; exact m)]
    exact e) ds r
theorem Sl.upd {M : Addr → Prop} {H : Hp} {a : Addr} {o : HO} {σ : L2.St} {δ : List Ds} (m : M a) (s : Sl M H σ δ) : Sl M (L2.upd H a o) σ δ :=
  s.mono (fun _ _ h _ => h) fun b u n e => by
    rw [upd_ne fun z => n (by rw [z]; exact m)]
    exact e
end
theorem Sl.weak {M : Addr → Prop} {H : Hp} {σ : L2.St} {δ : List Ds} (s : Sl M H σ δ) (i : Nat) : Sl M H σ (δ.set i .any) := by
  refine ⟨by rw [List.length_set]; exact s.1, fun j s' e => ?_⟩
  rw [List.getElem?_set] at e
  split at e
  · split at e
    · rw [← Option.some.inj e]
      trivial
    · cases e
  · exact s.2 j s' e
def dCl (g : G) (l : List Item) (dd ll : Addr) : List Ds := [.dat (encG g), .dat (.tuple (l.map pairD)), .adr dd, .adr ll, .any, .any]
/-- closed_by's state -/
structure StC (g : G) (l : List Item) (M : Addr → Prop) (H0 : Hp) (dd ll : Addr) (fs ln : List Item) (σ : L2.St) (H : Hp) : Prop where
  ex : Ex none H0 H
  wd : Wd none (plus2 M dd ll) H
  sl : Sl (plus2 M dd ll) H σ (dCl g l dd ll)
  d : ∃ kvs, H dd = some (.dT kvs) ∧ kvs.map (·.1) = fs.map pairK
  lin : ∃ xs, H ll = some (.lst xs) ∧ Rps (plus2 M dd ll) H xs (ln.map pairD)
  p : Ln g l fs ln
  fr : H0 dd = none ∧ H0 ll = none ∧ dd ≠ ll
  lb : ln.length ≤ 700 + 12 * fs.length
theorem ex_set {H0 H : Hp} {a : Addr} {o : HO} (x : Ex none H0 H) (h : H0 a = none) : Ex none H0 (upd H a o) := fun b u n e => by
  have hb : b ≠ a := fun z => by
    rw [z, h] at e
    cases e
  rw [upd_ne hb]
  exact x b u n e
section
variable {Pg : Program} {w : World} {K : PySem.W.Frag} {mg : Str → Option Value} {base : Heap}
abbrev spClosedBy : Sp := spD 2 (fun ds => ∃ (g : G) (l : List Item), ds = [encG g, .tuple (l.map pairD)] ∧ Valid g ∧ (∀ i ∈ l, itemOk g i) ∧ l.length ≤ 700) fun ds d => ∀ (g : G) (l : List Item), ds = [encG g, .tuple (l.map pairD)] → d = .tuple ((clT g l).map pairD)
theorem tuple_inj {xs ys : List PyData} (h : PyData.tuple xs = .tuple ys) : xs = ys := by
  injection h
theorem ok_closed_by (T : Tb K mg) : Ok Pg w K mg base "closed_by" ["grammar", "items"] 3 spClosedBy := by
  have O_rules_for := ok_rules_for (Pg := Pg) (w := w) (base := base) T
  have O_symbol_behind := ok_symbol_behind (Pg := Pg) (w := w) (base := base) T
  refine ok_def (k := 2) T.d_closed_by sc_closed_by (by decide) fun f cdv A outer s H E hr => ⟨_,
    (pss_cons (ps_par (i := 2) (j := 3) rfl sc_closed_by.nd rfl rfl (by decide) rfl rfl (pa_cons pe_dnewT (pa_cons (pe_callTy (k_list K) (by rfl) T.b_list (by decide +kernel) (pa_cons (pv 1) pa_nil)) pa_nil)) (by rfl))
      (pss_cons (ps_while PassesOwn.never (pt_cmpR (k_ne K hr.units) (pv 3) (pe_lst pa_nil) (nomark _)) (pss_cons (ps_set (i := 4) sc_closed_by.nd rfl (Or.inl rfl) (pe_bm0 PySem.F.plainAttrs_list PySem.F.slot_list_pop PySem.F.type_list_pop mt_pop (pv 3)))
      (pss_one (ps_if (pt_cmp (pc_dnotin (hu_of hr) (pv 4) (pv 2))) (pss_cons (ps_dput (hu_of hr) (pv 2) (pv 4) pe_bl (by rfl))
      (pss_one (ps_aug (i := 3) sc_closed_by.nd rfl (Or.inl rfl) (pe_lc (own := [("rule", 5)]) (g := gName 5) rfl sc_closed_by.nd (k_seq K (pe_callD O_rules_for (hr.mono (by decide)) (by rfl) (pa_cons (pv 0) (pa_cons (pe_callD O_symbol_behind (hr.mono (by decide)) (by rfl) (pa_cons (pv 0) (pa_cons (pv 4) pa_nil))) pa_nil)))) (blkOk_by (N := N_closed_by) (sc := defScope s_closed_by) (own := [("rule", 5)]) (by decide +kernel)) (fun _ _ _ _ _ => (pg_name (i := 5) sc_closed_by.nd rfl (Or.inl rfl))) (fun _ _ _ _ _ => pts_nil) (fun _ _ _ _ _ => (pe_tup (pa_cons (pv 5) (pa_cons pe_int pa_nil))))) iop_ext))) pss_nil))))
      (pss_one (ps_ret (pe_callTy (k_tuple K) (by rfl) T.b_tuple (by decide +kernel) (pa_cons (pe_callB (k_sdt K hr) (by rfl) T.b_sorted (by decide +kernel) (pa_cons (pv 2) pa_nil)) pa_nil)))))), fun ds _ hp => ?_⟩
  obtain ⟨g, l, rfl, Vg, hl, hn⟩ := hp
  intro M σ H w s D q1 q2
  obtain ⟨v1, hv1, r1⟩ := s.var (i := 1) rfl
  cases r1 with
  | @tup a1 xs1 _ n1 e1 sa =>
  -- found, line = {}, list(items)
  refine fun dd hdd => ⟨.ref a1, hv1, a1, xs1, rfl, .inr (SqT.of (ex_none (Ex.new hdd) e1)), fun ll hll => ⟨_, _, rfl, ?_⟩⟩
  have ndl : dd ≠ ll := fun z => by
    rw [← z, upd_same] at hll
    cases hll
  have hll0 : H ll = none := by
    rw [upd_ne (Ne.symm ndl)] at hll
    exact hll
  have x0 : Ex none H (upd (upd H dd (.dT [])) ll (.lst xs1)) := (Ex.new hdd).trans (Ex.new hll)
  have hdd1 : (upd (upd H dd (.dT [])) ll (.lst xs1)) dd = some (.dT []) := by rw [upd_ne ndl, upd_same]
  have w0 : Wd none (plus2 M dd ll) (upd (upd H dd (.dT [])) ll (.lst xs1)) := by
    have w1 := w.ex x0
    refine ⟨fun b m => ?_, fun _ e => (nomatch e), fun b xs m => ?_⟩
    · rcases m with m | m | m
      · exact w1.trk b m
      · rw [m, hdd1]
        exact fun z => nomatch z
      · rw [m, upd_same]
        exact fun z => nomatch z
    · rcases m with m | m | m
      · exact w1.mu b xs m
      · rw [m, hdd1]
        exact fun z => nomatch z
      · rw [m, upd_same]
        exact fun z => nomatch z
  have off : ∀ b o, plus2 M dd ll b → H b = some o → M b := fun b o m e => by
    rcases m with m | m | m
    · exact m
    · rw [m, hdd] at e
      cases e
    · rw [m, hll0] at e
      cases e
  have kp : ∀ b o, ¬ M b → H b = some o → (upd (upd H dd (.dT [])) ll (.lst xs1)) b = some o := fun b o _ e => ex_none x0 e
  have s0 : Sl (plus2 M dd ll) (upd (upd H dd (.dT [])) ll (.lst xs1)) ((σ.set 2 (some (.ref dd))).set 3 (some (.ref ll))) (dCl g l dd ll) := by
    have q := (s.mono off kp).set (i := 2) (v := .ref dd) (s := .adr dd) rfl
    exact q.set (i := 3) (v := .ref ll) (s := .adr ll) rfl
  have sa0 : Rps (plus2 M dd ll) (upd (upd H dd (.dT [])) ll (.lst xs1)) xs1 (l.map pairD) := Rps.mono off kp _ sa
  have S0 : StC g l M H dd ll [] l ((σ.set 2 (some (.ref dd))).set 3 (some (.ref ll))) (upd (upd H dd (.dT [])) ll (.lst xs1)) :=
    ⟨x0, w0, s0, ⟨[], hdd1, rfl⟩, ⟨xs1, upd_same, sa0⟩, Ln.init g l, ⟨hdd, hll0, ndl⟩, by omega⟩
  -- the loop
  refine ⟨fun m σ' H' => ∃ fs ln, m = 100 * (62 - fs.length) + ln.length ∧ StC g l M H dd ll fs ln σ' H', ⟨_, [], l, rfl, S0⟩, ?_⟩
  rintro m σ' H' ⟨fs, ln, rfl, S⟩
  have hfew := S.p.few Vg hl
  obtain ⟨xs, hxs, rxs⟩ := S.lin
  have h3 := S.sl.adr (i := 3) (a := ll) rfl
  -- while line != []
  refine ⟨.ref ll, h3, Nat.zero_le _, fun p hp => ?_⟩
  have xp : Ex none H' (upd H' p (.lst [])) := Ex.new hp
  refine ⟨.list (ln.map pairD), .list [], .lst (SqL.of (ex_none xp hxs)) (Rps.dp _ (rxs.ex S.wd xp)), .lst (SqL.of upd_same) .nil, shaped_pairs ln, rfl, ?_⟩
  refine ⟨_, rfl, ?_⟩
  rw [eqv_nil]
  have pl : p ≠ ll := fun z => by
    rw [z, hxs] at hp
    cases hp
  have S1 : StC g l M H dd ll fs ln σ' (upd H' p (.lst [])) := by
    obtain ⟨kvs, hk, hk2⟩ := S.d
    exact ⟨S.ex.trans xp, S.wd.ex xp, S.sl.ex S.wd xp, ⟨kvs, ex_none xp hk, hk2⟩, ⟨xs, ex_none xp hxs, rxs.ex S.wd xp⟩, S.p, S.fr, S.lb⟩
  generalize upd H' p (.lst []) = H1 at S1
  clear S xp hp hxs rxs h3
  obtain ⟨xs, hxs, rxs⟩ := S1.lin
  obtain ⟨kvs, hkv, hk2⟩ := S1.d
  have h3 := S1.sl.adr (i := 3) (a := ll) rfl
  have h2 := S1.sl.adr (i := 2) (a := dd) rfl
  rcases List.eq_nil_or_concat ln with e | ⟨ln', i, e⟩
  · -- sorted(found)
    subst e
    show if (!true) = true then _ else _
    rw [if_neg (by decide)]
    refine ⟨.ref dd, h2, dd, kvs, fs, rfl, hkv, hk2, by omega, fun zs p2 hz hs hp2 => ?_⟩
    refine ⟨p2, _, rfl, .inl ⟨SqL.of upd_same, fun t ht => ?_⟩⟩
    have y1 : Ex none H1 (upd H1 p2 (.lst (zs.map fun z => V.ref z.1))) := Ex.new hp2
    have y2 : Ex none H1 (upd (upd H1 p2 (.lst (zs.map fun z => V.ref z.1))) t (.tup (zs.map fun z => V.ref z.1))) := y1.trans (Ex.new ht)
    have yH := S1.ex.trans y2
    have wE := w.ex yH
    rw [fin_sort S1.p] at hs
    refine q2 _ (.tuple ((clT g l).map pairD)) _ yH wE (.tup ((w.ex (S1.ex.trans y1)).fresh ht) upd_same ?_) fun g' l' e => ?_
    · have key : ∀ (ys : List (Addr × Item)), (∀ z ∈ ys, H1 z.1 = some (.tup [.int z.2.1, .int z.2.2])) → Rps M (upd (upd H1 p2 (.lst (zs.map fun z => V.ref z.1))) t (.tup (zs.map fun z => V.ref z.1))) (ys.map fun z => V.ref z.1) ((ys.map (·.2)).map pairD) := by
        intro ys
        induction ys with
        | nil => exact fun _ => .nil
        | cons z ys ih =>
          intro h
          have hz1 := h z List.mem_cons_self
          refine .cons (.tup (fun m => (w.ex S1.ex).mu z.1 _ m hz1) (ex_none y2 hz1) (.cons (.int _) (.cons (.int _) .nil))) (ih fun y hy => h y (List.mem_cons_of_mem _ hy))
      have q := key zs hz
      rw [hs] at q
      exact q
    · obtain ⟨ea, eb⟩ := two_inj e
      rw [rulesD_inj ea, pairs_inj (tuple_inj eb)]
  · subst e
    rw [List.concat_eq_append] at rxs ⊢
    have hcc := S1.p
    rw [List.concat_eq_append] at hcc
    have hlb := S1.lb
    rw [List.concat_eq_append, List.length_append, List.length_singleton] at hlb
    rw [List.map_append, List.map_singleton] at rxs
    have hne : (!(ln' ++ [i]).isEmpty) = true := by simp
    rw [hne]
    show if true = true then _ else _
    rw [if_pos rfl]
    have hi := cl_ok hl (hcc.c2 i (List.mem_append_right _ (List.mem_singleton.mpr rfl)))
    obtain ⟨y, hy, ry, rr⟩ := rxs.last
    -- item = line.pop()
    refine ⟨fun σ2 H2 => ∃ fs2 ln2, StC g l M H dd ll fs2 ln2 σ2 H2 ∧ 100 * (62 - fs2.length) + ln2.length < 100 * (62 - fs.length) + (ln' ++ [i]).length, fun σ2 H2 ⟨fs2, ln2, S2, hm⟩ => ⟨_, hm, fs2, ln2, rfl, S2⟩, ?_⟩
    refine ⟨.ref ll, h3, .inl ⟨rfl, _, SqL.of hxs⟩, ll, xs, y, rfl, rfl, hxs, hy, ?_⟩
    have ml : plus2 M dd ll ll := .inr (.inr rfl)
    have ndl : dd ≠ ll := S1.fr.2.2
    have hlen : σ'.length = 6 := S1.sl.1
    have ndl' := S1.fr.2.2
    obtain ⟨c, rfl, nc, hc⟩ := rps_pair (ry.upd (o := .lst xs.dropLast) ml)
    have x2 : Ex none H (upd H1 ll (.lst xs.dropLast)) := ex_set S1.ex S1.fr.2.1
    have w2 : Wd none (plus2 M dd ll) (upd H1 ll (.lst xs.dropLast)) := wd_upd S1.wd fun xs z => nomatch z
    have s2 : Sl (plus2 M dd ll) (upd H1 ll (.lst xs.dropLast)) (σ'.set 4 (some (.ref c))) ((dCl g l dd ll).set 4 (.dat (pairD i))) := (S1.sl.upd ml).dat (ry.upd ml)
    have r2 : Rps (plus2 M dd ll) (upd H1 ll (.lst xs.dropLast)) xs.dropLast (ln'.map pairD) := rr.upd ml
    have hkv2 : (upd H1 ll (.lst xs.dropLast)) dd = some (.dT kvs) := by
      rw [upd_ne ndl']
      exact hkv
    have hll2 : (upd H1 ll (.lst xs.dropLast)) ll = some (.lst xs.dropLast) := upd_same
    have g4 : (σ'.set 4 (some (V.ref c)))[4]? = some (some (.ref c)) := by
      rw [List.getElem?_set, if_pos rfl, if_pos (by omega)]
    have g2 := s2.adr (i := 2) (a := dd) rfl
    have g3 := s2.adr (i := 3) (a := ll) rfl
    -- if item not in found
    have hb2 : (upd H1 ll (.lst xs.dropLast)) c = some (.tup ((pairK i).map kV)) := hc
    refine ⟨.ref c, g4, .ref dd, g2, dd, _, rfl, DGet.t hkv2 hb2, _, rfl, ?_⟩
    rw [valV_found hk2]
    by_cases hm : i ∈ fs
    · rw [decide_eq_true hm]
      show if false = true then _ else _
      rw [if_neg (by decide)]
      refine ⟨fs, ln', ⟨x2, w2, s2.weak 4, ⟨kvs, hkv2, hk2⟩, ⟨_, hll2, r2⟩, hcc.skip hm, S1.fr, by omega⟩, ?_⟩
      rw [List.length_append, List.length_singleton]
      omega
    · rw [decide_eq_false hm]
      show if true = true then _ else _
      rw [if_pos rfl]
      have hadd := hcc.add hm
      have hfew2 := hadd.few Vg hl
      rw [List.length_append, List.length_singleton] at hfew2
      have hkl : kvs.length = fs.length := by
        have q := congrArg List.length hk2
        rwa [List.length_map, List.length_map] at q
      have hno : valV kvs (pairK i) = none := by
        have q := valV_found hk2 i
        rw [decide_eq_false hm] at q
        cases e : valV kvs (pairK i) with
        | none => rfl
        | some v =>
          rw [e] at q
          cases q
      -- found[item] = True
      refine ⟨.ref dd, g2, .ref c, g4, dd, _, rfl, DPut.t hkv2 hb2 (big_lt (by omega)), ?_⟩
      have md : plus2 M dd ll dd := .inr (.inl rfl)
      have x3 := ex_set (o := .dT (putK kvs (pairK i) (.bl true))) x2 S1.fr.1
      have w3 : Wd none (plus2 M dd ll) (upd (upd H1 ll (.lst xs.dropLast)) dd (.dT (putK kvs (pairK i) (.bl true)))) := wd_upd w2 fun xs z => nomatch z
      have s3 := s2.upd (o := .dT (putK kvs (pairK i) (.bl true))) md
      have r3 := r2.upd (o := .dT (putK kvs (pairK i) (.bl true))) md
      have hll3 : (upd (upd H1 ll (.lst xs.dropLast)) dd (.dT (putK kvs (pairK i) (.bl true)))) ll = some (.lst xs.dropLast) := by
        rw [upd_ne (Ne.symm ndl')]
        exact hll2
      have hdd3 : (upd (upd H1 ll (.lst xs.dropLast)) dd (.dT (putK kvs (pairK i) (.bl true)))) dd = some (.dT (putK kvs (pairK i) (.bl true))) := upd_same
      -- line += [..]
      refine ⟨.ref ll, g3, ?_⟩
      have ln12 := next_len Vg i
      have lr12 : ((rulesO g (behindI g i)).map PyData.int).length ≤ 12 := by
        unfold nextI at ln12
        rw [List.length_map] at ln12 ⊢
        exact ln12
      have ev : EvD none (tLc (iSeq K (tCall spRulesFor [] E0 (tCons (tVar 0) (tCons (tCall spBehind [] E0 (tCons (tVar 0) (tCons (tVar 4) tNil))) tNil)))) (gName 5) tYes (tTup (tCons (tVar 5) (tCons (tC (.int 0)) tNil))) [5]) ((dCl g l dd ll).set 4 (.dat (pairD i))) (.list ((nextI g i).map pairD)) :=
        Ev.is (ev_lcN (wk_list (ev_fun (r := .list ((rulesO g (behindI g i)).map .int)) (ea_cons (ev_var rfl) (ea_cons (ev_fun (r := optD (behindI g i)) (ea_cons (ev_var rfl) (ea_cons (ev_var rfl) ea_nil)) ⟨g, i, rfl, hi⟩ fun d h => h g i rfl) ea_nil)) ⟨g, behindI g i, rfl, Vg, behind_sym Vg i⟩ fun d h => h g _ rfl)) (fun d => .tuple [d, .int 0]) (by omega) fun d hd => ev_tup (ea_cons (ev_var rfl) (ea_cons ev_int ea_nil)) (by simp)) (by
          unfold nextI
          rw [List.map_map, List.map_map] <;> rfl)
      refine ev (plus2 M dd ll) _ _ w3 s3 _ fun v d H4 e4 w4 r4 ed => ?_
      subst ed
      cases r4 with
      | @lst b4 zs _ nb4 eb4 sb4 =>
      have hl4 := ex_none e4 hll3
      refine ⟨ll, b4, xs.dropLast, zs, rfl, rfl, hl4, eb4, big_le ?_, ?_⟩
      · have q1 := r3.length
        have q2 := sb4.length
        rw [List.length_map] at q1 q2
        omega
      · refine ⟨fs ++ [i], ln' ++ nextI g i, ⟨ex_set (x3.trans e4) S1.fr.2.1, wd_upd w4 (fun xs z => (nomatch z)), ?_, ⟨putK kvs (pairK i) (.bl true), ?_, ?_⟩, ⟨_, upd_same, ?_⟩, hadd, S1.fr, ?_⟩, ?_⟩
        · have q := ((((s3.ex w3 e4).upd (o := .lst (xs.dropLast ++ zs)) ml).weak 4).set (i := 3) (v := .ref ll) (s := .adr ll) rfl)
          exact q
        · rw [upd_ne ndl']
          exact ex_none e4 hdd3
        · rw [putK_new _ hno, List.map_append, List.map_append, hk2] <;> rfl
        · rw [List.map_append]
          exact ((r3.ex w3 e4).append sb4).upd ml
        · rw [List.length_append, List.length_append, List.length_singleton]
          omega
        · simp only [List.length_append, List.length_singleton]
          omega
abbrev spClosed : Sp := spD 2 (fun ds => ∃ (g : G) (l : List Item), ds = [encG g, .tuple (l.map pairD)] ∧ Valid g ∧ (∀ i ∈ l, itemOk g i) ∧ Asc ltP l ∧ l.length ≤ 700) fun ds d => ∀ (g : G) (l : List Item), ds = [encG g, .tuple (l.map pairD)] → d = .tuple ((clT g l).map pairD)
theorem ok_closed (T : Tb K mg) : Ok Pg w K mg base "closed" ["grammar", "items"] 6 spClosed := by
  have O_need_grammar := ok_need_grammar (Pg := Pg) (w := w) (base := base) T
  have O_need_items := ok_need_items (Pg := Pg) (w := w) (base := base) T
  have O_closed_by := ok_closed_by (Pg := Pg) (w := w) (base := base) T
  refine ok_def (k := 5) T.d_closed sc_closed (by decide) fun f cdv A outer s H E hr => ⟨_,
    (pss_cons (ps_expr (pe_callD O_need_grammar (hr.mono (by decide)) (by rfl) (pa_cons (pv 0) pa_nil)))
      (pss_cons (ps_expr (pe_callD O_need_items (hr.mono (by decide)) (by rfl) (pa_cons (pv 0) (pa_cons (pv 1) pa_nil))))
      (pss_one (ps_ret (pe_callD O_closed_by (hr.mono (by decide)) (by rfl) (pa_cons (pv 0) (pa_cons (pv 1) pa_nil))))))), fun ds _ hp => ?_⟩
  obtain ⟨g, l, rfl, V, h1, h2, h3⟩ := hp
  refine q_drop (ev_fun (r := .none) (ea_cons (ev_var rfl) ea_nil) ⟨g, rfl, V⟩ fun d h => h) ?_
  refine q_drop (ev_fun (r := .none) (ea_cons (ev_var rfl) (ea_cons (ev_var rfl) ea_nil)) ⟨g, l, rfl, h1, h2, h3⟩ fun d h => h) ?_
  refine run_retD (d := .tuple ((clT g l).map pairD)) (ev_fun (ea_cons (ev_var rfl) (ea_cons (ev_var rfl) ea_nil)) ⟨g, l, rfl, V, h1, h3⟩ fun d h => h g l rfl) fun g' l' e => ?_
  obtain ⟨ea, eb⟩ := two_inj e
  rw [rulesD_inj ea, pairs_inj (tuple_inj eb)]
end
end Sh

set_option maxHeartbeats 4000000
/-! Layer U: the law's own items, closed turn by turn. -/
namespace Sh
open PySem PySem.Spec PyProof.Rows L2
def unpair : PyData → Item
  | .tuple [.int a, .int b] => (a, b)
  | _ => (0, 0)
theorem eqv_pair (p q : Item) : PyData.eqv (pairD p) (pairD q) = decide (p = q) := by
  show PyData.eqv (.tuple [.int p.1, .int p.2]) (.tuple [.int q.1, .int q.2]) = _
  simp only [PyData.eqv, PyData.eqvAll, Bool.and_true]
  by_cases h : p = q
  · subst h
    simp
  · rw [decide_eq_false h]
    have : ¬ (p.1 = q.1 ∧ p.2 = q.2) := fun z => h (Prod.ext z.1 z.2)
    simpa using this
theorem any_pair (l : List Item) (q : Item) : ((l.map pairD).any fun z => PyData.eqv z (pairD q)) = decide (q ∈ l) := by
  rw [List.any_map, Bool.eq_iff_iff, List.any_eq_true, decide_eq_true_eq]
  constructor
  · rintro ⟨p, hp, e⟩
    have e' : PyData.eqv (pairD p) (pairD q) = true := e
    rw [eqv_pair, decide_eq_true_eq] at e'
    rw [← e']
    exact hp
  · intro h
    exact ⟨q, h, by show PyData.eqv (pairD q) (pairD q) = true; rw [eqv_pair]; simp⟩
theorem any_opt (l : List (Option Str)) (y : Str) : ((l.map optD).any fun z => PyData.eqv z (.str y)) = decide (some y ∈ l) := by
  rw [List.any_map, Bool.eq_iff_iff, List.any_eq_true, decide_eq_true_eq]
  constructor
  · rintro ⟨p, hp, e⟩
    have e' : PyData.eqv (optD p) (.str y) = true := e
    cases p with
    | none => simp [optD, PyData.eqv] at e'
    | some x =>
      have : x = y := by simpa [optD, PyData.eqv] using e'
      rw [← this]
      exact hp
  · intro h
    exact ⟨some y, h, by simp [optD, PyData.eqv]⟩
theorem shaped_list {ds : List PyData} (h : ∀ d ∈ ds, PyData.canLay0 d = true ∧ d.depth ≤ 8) : SeqAt.shaped (.list ds) = true := by
  have h1 : PyData.canLayAll0 ds = true ∧ PyData.depthAll ds ≤ 8 := by
    induction ds with
    | nil => exact ⟨rfl, by simp [PyData.depthAll]⟩
    | cons d ds ih =>
      obtain ⟨a, b⟩ := ih fun x hx => h x (List.mem_cons_of_mem _ hx)
      obtain ⟨c, e⟩ := h d List.mem_cons_self
      refine ⟨?_, ?_⟩
      · show (PyData.canLay0 d && PyData.canLayAll0 ds) = true
        rw [c, a] <;> rfl
      · rw [PyData.depthAll]
        omega
  unfold SeqAt.shaped
  rw [Bool.and_eq_true]
  refine ⟨h1.1, decide_eq_true ?_⟩
  simp only [PyData.depth]
  omega
theorem shaped_opts {l : List (Option Str)} (h : ∀ x ∈ l, symO x) : SeqAt.shaped (.list (l.map optD)) = true := shaped_list fun d hd => by
  obtain ⟨x, hx, rfl⟩ := List.mem_map.mp hd
  cases x with
  | none => exact ⟨rfl, by simp [optD, PyData.depth]⟩
  | some y => exact ⟨nm_strOk (h _ hx y rfl), by simp [optD, PyData.depth]⟩
section
variable {Pg : Program} {w : World} {K : PySem.W.Frag} {mg : Str → Option Value} {base : Heap}
theorem ok__law_right (T : Tb K mg) : Ok Pg w K mg base "_law_right" ["_law_grammar_here", "_law_rule"] 1 spRight := by
  refine ok_def (k := 0) T.d__law_right sc__law_right (by decide) fun f cdv A outer s H E hr => ⟨_,
    (pss_one (ps_ret (pe_ifExp (pt_cmpR (k_eq K hr.units) (pv 1) (pe_un un_neg pe_int) (nomark _)) (pe_tup (pa_cons (pe_ix (k_ix K) (pv 0) pe_int (fun _ _ => rfl)) pa_nil)) (pe_ix (k_ix K) (pe_ix (k_ix K) (pe_ix (k_ix K) (pv 0) pe_int (fun _ _ => rfl)) (pv 1) (fun _ _ => rfl)) pe_int (fun _ _ => rfl))))), fun ds _ hp => ?_⟩
  obtain ⟨g, n, rfl, h1, h2⟩ := hp
  refine run_retD (d := .tuple ((rightI g n).map .str)) (ev_if (b := decide (n < 0)) (et_t (Ev.is (ev_op (ev_var rfl) (ev_un ev_int rd_neg) (rd_eq rfl rfl)) (congrArg PyData.bool (by
    show (n == -1) = decide (n < 0)
    by_cases c : n < 0
    · have e : n = -1 := by omega
      simp [e]
    · have e : ¬ n = -1 := by omega
      simp [c, e])))) (fun hb => ?_) fun hb => ?_) fun g' n' e => ?_
  · have h0 : n < 0 := of_decide_eq_true hb
    have e : rightI g n = [g.start] := by
      unfold rightI
      rw [if_pos h0]
    rw [e]
    exact ev_tup (ea_cons (ev_op (ev_var rfl) ev_int (rd_ixT atI1)) ea_nil) (by simp)
  · have h0 : ¬ n < 0 := of_decide_eq_false hb
    have hl : n.toNat < g.rules.length := by omega
    have e : rightI g n = (g.rules[n.toNat]).2 := by
      unfold rightI
      rw [if_neg h0, List.getElem?_eq_getElem hl] <;> rfl
    rw [e]
    exact ev_op (ev_op (ev_op (ev_var rfl) ev_int (rd_ixT atI2)) (ev_var rfl) (rd_ixT (d := encR (g.rules[n.toNat])) (atI_nat' (by omega) (by rw [List.getElem?_map, List.getElem?_eq_getElem hl] <;> rfl)))) ev_int (rd_ixT atI1)
  · obtain ⟨a, b⟩ := two_inj e
    rw [rulesD_inj a, int_inj' b]
theorem ok__law_behind (T : Tb K mg) : Ok Pg w K mg base "_law_behind" ["_law_grammar_here", "_law_item"] 2 spBehind := by
  have O__law_right := ok__law_right (Pg := Pg) (w := w) (base := base) T
  refine ok_def (k := 1) T.d__law_behind sc__law_behind (by decide) fun f cdv A outer s H E hr => ⟨_,
    (pss_cons (ps_set (i := 2) sc__law_behind.nd rfl (Or.inl rfl) (pe_callD O__law_right (hr.mono (by decide)) (by rfl) (pa_cons (pv 0) (pa_cons (pe_ix (k_ix K) (pv 1) pe_int (fun _ _ => rfl)) pa_nil))))
      (pss_one (ps_ret (pe_ifExp (pt_cmpR (k_lt K hr.units0) (pe_ix (k_ix K) (pv 1) pe_int (fun _ _ => rfl)) (pe_callB (k_len K) (by rfl) T.b_len (by decide +kernel) (pa_cons (pv 2) pa_nil)) (nomark _)) (pe_ix (k_ix K) (pv 2) (pe_ix (k_ix K) (pv 1) pe_int (fun _ _ => rfl)) (fun _ _ => rfl)) pe_non)))), fun ds _ hp => ?_⟩
  obtain ⟨g, i, rfl, h1, h2, h3, h4⟩ := hp
  refine q_setD (d := .tuple ((rightI g i.1).map .str)) (ev_fun (ea_cons (ev_var rfl) (ea_cons (ev_op (ev_var rfl) ev_int (rd_ixT atI0)) ea_nil)) ⟨g, i.1, rfl, h1, h2⟩ fun d h => h g i.1 rfl) ?_
  refine run_retD (d := optD (behindI g i)) (ev_if (b := decide (i.2 < (rightI g i.1).length)) (et_t (Ev.is (ev_op (ev_op (ev_var rfl) ev_int (rd_ixT atI1)) (ev_cb (ea_cons (ev_var rfl) ea_nil) rl_lenT) rd_ltI) (congrArg PyData.bool (by rw [List.length_map])))) (fun hb => ?_) fun hb => ?_) fun g' n' e => ?_
  · have hl : i.2 < (rightI g i.1).length := of_decide_eq_true hb
    have hl' : i.2.toNat < (rightI g i.1).length := by omega
    have e : behindI g i = some ((rightI g i.1)[i.2.toNat]) := List.getElem?_eq_getElem hl'
    rw [e]
    exact ev_op (ev_var rfl) (ev_op (ev_var rfl) ev_int (rd_ixT atI1)) (rd_ixT (atI_nat' h3 (by rw [List.getElem?_map, List.getElem?_eq_getElem hl'] <;> rfl)))
  · have hl : ¬ i.2 < (rightI g i.1).length := of_decide_eq_false hb
    have e : behindI g i = none := List.getElem?_eq_none (by omega)
    rw [e]
    exact ev_non
  · obtain ⟨a, b⟩ := two_inj e
    rw [rulesD_inj a, pairD_inj b]
def preI (g : G) (i : Nat) : List Item := (List.range i).flatMap fun r => itemsFrom g (-1 + ((r : Nat) : Int))
theorem preI_succ (g : G) (i : Nat) : preI g (i + 1) = preI g i ++ itemsFrom g (-1 + (i : Int)) := by
  unfold preI
  rw [List.range_succ, List.flatMap_append]
  simp
theorem ok__law_all_items (T : Tb K mg) : Ok Pg w K mg base "_law_all_items" ["_law_grammar_here"] 2 spAllItems := by
  have O__law_right := ok__law_right (Pg := Pg) (w := w) (base := base) T
  refine ok_def (k := 1) T.d__law_all_items sc__law_all_items (by decide) fun f cdv A outer s H E hr => ⟨_,
    (pss_cons (ps_set (i := 1) sc__law_all_items.nd rfl (Or.inl rfl) (pe_lst pa_nil))
      (pss_cons (ps_for PassesOwn.never rfl (pi_range2 (by rfl) T.b_range (pa_cons (pe_un un_neg pe_int) (pa_cons (pe_callB (k_len K) (by rfl) T.b_len (by decide +kernel) (pa_cons (pe_ix (k_ix K) (pv 0) pe_int (fun _ _ => rfl)) pa_nil)) pa_nil))) (pg_name (i := 2) sc__law_all_items.nd rfl (Or.inr rfl)) (pss_one (ps_set (i := 1) sc__law_all_items.nd rfl (Or.inl rfl) (pe_op op_addA (pv 1) (pe_lc (own := [("_law_place", 3)]) (g := gName 3) rfl sc__law_all_items.nd (pi_range1 (by rfl) T.b_range (pa_cons (pe_op op_addA (pe_callB (k_len K) (by rfl) T.b_len (by decide +kernel) (pa_cons (pe_callD O__law_right (hr.mono (by decide)) (by rfl) (pa_cons (pv 0) (pa_cons (pv 2) pa_nil))) pa_nil)) pe_int) pa_nil)) (blkOk_by (N := N__law_all_items) (sc := defScope s__law_all_items) (own := [("_law_place", 3)]) (by decide +kernel)) (fun _ _ _ _ _ => (pg_name (i := 3) sc__law_all_items.nd rfl (Or.inl rfl))) (fun _ _ _ _ _ => pts_nil) (fun _ _ _ _ _ => (pe_tup (pa_cons (pv 2) (pa_cons (pv 3) pa_nil)))))))))
      (pss_one (ps_ret (pv 1))))), fun ds _ hp => ?_⟩
  obtain ⟨g, rfl, V⟩ := hp
  have l2 : (g.rules.map encR).length = g.rules.length := List.length_map ..
  have lr2 := V.r2
  refine q_setD (d := .list []) (ev_lst ea_nil (by simp)) ?_
  refine run_seq (N1 := fun δ => ∃ s2 s3, δ = [.dat (encG g), .dat (.list ((allIt g).map pairD)), s2, s3]) (run_for (wk_rng2 (lo := -1) (n := g.rules.length) (ea_cons (ev_un ev_int rd_neg) (ea_cons (Ev.is (ev_cb (ea_cons (ev_op (ev_var rfl) ev_int (rd_ixT atI2)) ea_nil) rl_lenT) (by rw [l2])) ea_nil)) (by omega) (by omega)) fun n item ⟨hn, hi⟩ => ?_) fun δ1 ⟨s2, s3, e⟩ => ?_
  · refine ⟨fun i δ => ∃ s2 s3, δ = [.dat (encG g), .dat (.list ((preI g i).map pairD)), s2, s3], ⟨_, _, rfl⟩, ?_, ?_⟩
    · rintro i δi hlt ⟨s2, s3, rfl⟩
      have b1 : (-1 : Int) ≤ -1 + (i : Int) := by omega
      have b2 : (-1 : Int) + (i : Int) < g.rules.length := by omega
      have lr := right_len V (-1 + (i : Int))
      rw [hi i]
      refine ⟨_, _, gb_name, run_set (A := fun d => d = .list ((preI g (i + 1)).map pairD)) (Ev.is (ev_op (ev_var rfl) (ev_lcN (wk_num (n := (rightI g (-1 + (i : Int))).length + 1) (ea_cons (Ev.is (ev_op (ev_cb (ea_cons (ev_fun (r := .tuple ((rightI g (-1 + (i : Int))).map .str)) (ea_cons (ev_var rfl) (ea_cons (ev_var rfl) ea_nil)) ⟨g, _, rfl, b1, b2⟩ fun d h => h g _ rfl) ea_nil) rl_lenT) ev_int rd_addI) (by rw [List.length_map] <;> rfl)) ea_nil) (by omega)) (fun d => .tuple [.int (-1 + (i : Int)), d]) (by rw [numD_len]; omega) fun d hd => ev_tup (ea_cons (ev_var rfl) (ea_cons (ev_var rfl) ea_nil)) (by simp)) (rd_addL ?_)) ?_) fun d e => ?_⟩
      · have h := len_flat (fun r => itemsFrom g (-1 + ((r : Nat) : Int))) (k := 5) (List.range i) fun r _ => by
          have := right_len V (-1 + ((r : Nat) : Int))
          show ((List.range _).map _).length ≤ 5
          rw [List.length_map, List.length_range]
          omega
        rw [List.length_range] at h
        rw [List.length_map, List.length_map, numD_len]
        have h' : (preI g i).length ≤ i * 5 := h
        omega
      · rw [preI_succ, List.map_append]
        refine congrArg (fun z => PyData.list (_ ++ z)) ?_
        unfold itemsFrom numD
        rw [List.map_map, List.map_map] <;> rfl
      · rw [e]
        exact ⟨_, _, rfl⟩
    · rintro δ' ⟨s2, s3, rfl⟩
      have e : n = g.rules.length + 1 := by omega
      rw [e]
      exact ⟨_, _, rfl⟩
  · subst e
    refine run_retD (d := .list ((allIt g).map pairD)) (ev_var rfl) fun g' e => ?_
    have e' : encG g = encG g' := by simpa using e
    rw [rulesD_inj e']
abbrev spLawClosed : Sp := spD 2 (fun ds => ∃ (g : G) (l : List Item), ds = [encG g, .tuple (l.map pairD)] ∧ Valid g ∧ (∀ i ∈ l, itemOk g i) ∧ l.Nodup) fun ds d => ∀ (g : G) (l : List Item), ds = [encG g, .tuple (l.map pairD)] → d = .tuple ((clT g l).map pairD)
end
end Sh

set_option maxHeartbeats 4000000
/-! Layer V: the law's closing, a grammar over rules. -/
namespace Sh
open PySem PySem.Spec PyProof.Rows L2
/-- what a grammar over rules is -/
def symsOf (rs : List Rule) : List Str := rs.flatMap (·.2)
def termsOf (rs : List Rule) : List Str := canonC ltS ((symsOf rs).filter fun x => headZ x smallZ)
def overG (rs : List Rule) : G := ⟨termsOf rs, "S", rs⟩
theorem lower_sign {k : Nat} (h : (inZ k smallZ || (inZ k capZ || inZ k figZ)) = true) : Txt.islower ⟨#[k]⟩ = inZ k smallZ := by
  have a : ∀ k ∈ smallZ.cps.toList, Txt.islower ⟨#[k]⟩ = inZ k smallZ := by decide +kernel
  have b : ∀ k ∈ capZ.cps.toList, Txt.islower ⟨#[k]⟩ = inZ k smallZ := by decide +kernel
  have d : ∀ k ∈ figZ.cps.toList, Txt.islower ⟨#[k]⟩ = inZ k smallZ := by decide +kernel
  simp only [Bool.or_eq_true, decide_eq_true_eq] at h
  rcases h with h | h | h
  · exact a k h
  · exact b k h
  · exact d k h
theorem encRs_any {c : Option Addr} {te : TE} {δ : List Ds} {rs : List Rule} (h : EvD c te δ (.tuple (rs.map encR))) : EvD c te δ (.tuple ((rs.map ruleP).map two)) := by
  rw [← encR_two]
  exact h
section
variable {Pg : Program} {w : World} {K : PySem.W.Frag} {mg : Str → Option Value} {base : Heap}
theorem turn_data (g : G) (F : List Item) : ((numD g.rules.length).filter fun d => decide (((g.rules[(intOf d).toNat]?).map (·.1)) ∈ F.map (behindI g)) && !decide ((intOf d, (0 : Int)) ∈ F)).map (fun d => PyData.tuple [d, .int 0]) = ((newI g F).map fun (r : Nat) => ((r : Int), (0 : Int))).map pairD := by
  unfold numD newI
  rw [List.filter_map, List.map_map, List.map_map] <;> rfl
theorem ok__law_closed (T : Tb K mg) : Ok Pg w K mg base "_law_closed" ["_law_grammar_here", "_law_items"] 3 spLawClosed := by
  have O__law_behind := ok__law_behind (Pg := Pg) (w := w) (base := base) T
  refine ok_def (k := 2) T.d__law_closed sc__law_closed (by decide) fun f cdv A outer s H E hr => ⟨_,
    (pss_cons (ps_set (i := 2) sc__law_closed.nd rfl (Or.inr rfl) (pe_callTy (k_list K) (by rfl) T.b_list (by decide +kernel) (pa_cons (pv 1) pa_nil)))
      (pss_cons (ps_for PassesOwn.never rfl (pi_range1 (by rfl) T.b_range (pa_cons (pe_op op_addA (pe_callB (k_len K) (by rfl) T.b_len (by decide +kernel) (pa_cons (pe_ix (k_ix K) (pv 0) pe_int (fun _ _ => rfl)) pa_nil)) pe_int) pa_nil)) (pg_name (i := 3) sc__law_closed.nd rfl (Or.inl rfl)) (pss_cons (ps_set (i := 4) sc__law_closed.nd rfl (Or.inr rfl) (pe_lc (own := [("_law_item", 5)]) (g := gName 5) rfl sc__law_closed.nd (k_seq K (pv 2)) (blkOk_by (N := N__law_closed) (sc := defScope s__law_closed) (own := [("_law_item", 5)]) (by decide +kernel)) (fun _ _ _ _ _ => (pg_name (i := 5) sc__law_closed.nd rfl (Or.inl rfl))) (fun _ _ _ _ _ => pts_nil) (fun _ _ _ _ _ => (pe_callD O__law_behind (hr.mono (by decide)) (by rfl) (pa_cons (pv 0) (pa_cons (pv 5) pa_nil))))))
      (pss_one (ps_set (i := 2) sc__law_closed.nd rfl (Or.inr rfl) (pe_op op_addA (pv 2) (pe_lc (own := [("_law_rule", 6)]) (g := gName 6) rfl sc__law_closed.nd (pi_range1 (by rfl) T.b_range (pa_cons (pe_callB (k_len K) (by rfl) T.b_len (by decide +kernel) (pa_cons (pe_ix (k_ix K) (pv 0) pe_int (fun _ _ => rfl)) pa_nil)) pa_nil)) (blkOk_by (N := N__law_closed) (sc := defScope s__law_closed) (own := [("_law_rule", 6)]) (by decide +kernel)) (fun _ _ _ _ _ => (pg_name (i := 6) sc__law_closed.nd rfl (Or.inl rfl))) (fun _ _ _ _ _ => (pts_one (PW.pt (pw_and (pt_cmpR (k_in K (hu65 hr)) (pe_ix (k_ix K) (pe_ix (k_ix K) (pe_ix (k_ix K) (pv 0) pe_int (fun _ _ => rfl)) (pv 6) (fun _ _ => rfl)) pe_int (fun _ _ => rfl)) (pv 4) (by rfl)) (pw_and1 (pt_cmpR (k_notin K (hu65 hr)) (pe_tup (pa_cons (pv 6) (pa_cons pe_int pa_nil))) (pv 2) (by rfl))))))) (fun _ _ _ _ _ => (pe_tup (pa_cons (pv 6) (pa_cons pe_int pa_nil))))))))))
      (pss_one (ps_ret (pe_callTy (k_tuple K) (by rfl) T.b_tuple (by decide +kernel) (pa_cons (k_sset K hr (by rfl) T.b_sorted (by rfl) T.b_set (pv 2)) pa_nil)))))), fun ds _ hp => ?_⟩
  obtain ⟨g, l, rfl, V, hl, hnd⟩ := hp
  have l2 : (g.rules.map encR).length = g.rules.length := List.length_map ..
  have lr2 := V.r2
  refine q_setD (d := .list (l.map pairD)) (ev_cb (ea_cons (ev_var rfl) ea_nil) (rl_list _ (.inr rfl))) ?_
  refine run_seq (N1 := fun δ => ∃ s3 s4 s5 s6, δ = [.dat (encG g), .dat (.tuple (l.map pairD)), .dat (.list ((turnsI g (g.rules.length + 1) l).map pairD)), s3, s4, s5, s6]) (run_for (wk_num (n := g.rules.length + 1) (ea_cons (Ev.is (ev_op (ev_cb (ea_cons (ev_op (ev_var rfl) ev_int (rd_ixT atI2)) ea_nil) rl_lenT) ev_int rd_addI) (by rw [l2] <;> rfl)) ea_nil) (by omega)) fun n item ⟨hn, hi⟩ => ?_) fun δ1 ⟨s3, s4, s5, s6, e⟩ => ?_
  · refine ⟨fun i δ => ∃ s3 s4 s5 s6, δ = [.dat (encG g), .dat (.tuple (l.map pairD)), .dat (.list ((turnsI g i l).map pairD)), s3, s4, s5, s6], ⟨_, _, _, _, rfl⟩, ?_, ?_⟩
    · rintro i δi hlt ⟨s3, s4, s5, s6, rfl⟩
      have hF := turns_few V hnd hl i
      have hok : ∀ j ∈ turnsI g i l, itemOk g j := fun j hj => cl_ok hl (turns_cl i j hj)
      refine ⟨_, _, gb_name, ?_⟩
      generalize hFe : turnsI g i l = F at hF hok ⊢
      have lF : (F.map pairD).length = F.length := List.length_map ..
      refine q_setD (d := .list ((F.map (behindI g)).map optD)) (Ev.is (ev_lcN (wk_list (ev_var rfl)) (fun d => optD (behindI g (unpair d))) (by omega) fun d hd => ?_) (by rw [List.map_map, List.map_map] <;> rfl)) ?_
      · obtain ⟨j, hj, rfl⟩ := List.mem_map.mp hd
        exact ev_fun (ea_cons (ev_var rfl) (ea_cons (ev_var rfl) ea_nil)) ⟨g, j, rfl, hok j hj⟩ fun d h => h g j rfl
      · refine run_set (A := fun d => d = .list ((turnI g F).map pairD)) (Ev.is (ev_op (ev_var rfl) (ev_lcF (wk_num (n := g.rules.length) (ea_cons (Ev.is (ev_cb (ea_cons (ev_op (ev_var rfl) ev_int (rd_ixT atI2)) ea_nil) rl_lenT) (by rw [l2])) ea_nil) (by omega))
          (fun d => decide (((g.rules[(intOf d).toNat]?).map (·.1)) ∈ F.map (behindI g)) && !decide ((intOf d, (0 : Int)) ∈ F)) (fun d => .tuple [d, .int 0]) (by rw [numD_len]; omega) (fun d hd => ?_) fun d hd _ => ev_tup (ea_cons (ev_var rfl) (ea_cons ev_int ea_nil)) (by simp)) (rd_addL ?_)) ?_) fun d e => ?_
        · obtain ⟨r, hr, rfl⟩ := List.mem_map.mp hd
          have hr' : r < g.rules.length := List.mem_range.mp hr
          have hn := nt_nm (ruleB_ok (V.rule _ (List.getElem_mem hr'))).1
          have eg : g.rules[((r : Nat) : Int).toNat]? = some (g.rules[r]) := by
            rw [Int.toNat_natCast, List.getElem?_eq_getElem hr']
          have sh : SeqAt.shaped (.list ((F.map (behindI g)).map optD)) = true := shaped_opts fun x hx => by
            obtain ⟨j, _, rfl⟩ := List.mem_map.mp hx
            exact behind_sym V j
          refine EvT.is (et_and (a := decide (((g.rules[((r : Nat) : Int).toNat]?).map (·.1)) ∈ F.map (behindI g))) (b := !decide (((r : Int), (0 : Int)) ∈ F)) ?_ fun _ => ?_) rfl
          · refine et_t (Ev.is (ev_op (ev_op (ev_op (ev_op (ev_var rfl) ev_int (rd_ixT atI2)) (ev_var rfl) (rd_ixT (d := encR (g.rules[r])) (atI_nat' (Int.natCast_nonneg r) (by rw [List.getElem?_map, eg] <;> rfl)))) ev_int (rd_ixT atI0)) (ev_var rfl) (rd_inL (nm_shaped hn) sh)) ?_)
            rw [eg]
            exact congrArg PyData.bool (any_opt (F.map (behindI g)) (g.rules[r]).1)
          · refine et_t (Ev.is (ev_op (ev_tup (ea_cons (ev_var rfl) (ea_cons ev_int ea_nil)) (by simp)) (ev_var rfl) (rd_notInL (x := pairD ((r : Int), 0)) (by rfl) (shaped_pairs F))) ?_)
            exact congrArg (fun b => PyData.bool (!b)) (any_pair F ((r : Int), 0))
        · rw [List.length_map, List.length_map]
          have h := List.length_filter_le (fun d => decide (((g.rules[(intOf d).toNat]?).map (·.1)) ∈ F.map (behindI g)) && !decide ((intOf d, (0 : Int)) ∈ F)) (numD g.rules.length)
          rw [numD_len] at h
          omega
        · rw [turn_data]
          unfold turnI
          rw [List.map_append]
        · rw [e]
          have e2 : turnsI g (i + 1) l = turnI g F := by
            rw [← hFe] <;> rfl
          exact ⟨_, _, _, _, by rw [e2] <;> rfl⟩
    · rintro δ' ⟨s3, s4, s5, s6, rfl⟩
      have e : n = g.rules.length + 1 := by rw [hn, numD_len]
      rw [e]
      exact ⟨_, _, _, _, rfl⟩
  · subst e
    have hF := turns_few V hnd hl (g.rules.length + 1)
    refine run_retD (d := .tuple ((clT g l).map pairD)) (ev_cb (ea_cons (ev_sortedSet encP (bs := turnsI g (g.rules.length + 1) l) (Ev.imp (ev_var rfl) fun d e => .inl e) (by omega)) ea_nil) rl_tuple) fun g' l' e => ?_
    obtain ⟨ea, eb⟩ := two_inj e
    rw [rulesD_inj ea, pairs_inj (tuple_inj eb)]
abbrev spOver : Sp := spD 1 (fun ds => ∃ rs : List Rule, ds = [.list (rs.map encR)] ∧ 1 ≤ rs.length ∧ rs.length ≤ 12 ∧ ∀ r ∈ rs, ruleB r = true) fun ds d => ∀ rs : List Rule, ds = [.list (rs.map encR)] → d = encG (overG rs)
theorem ok__law_over (T : Tb K mg) : Ok Pg w K mg base "_law_over" ["_law_rules"] 1 spOver := by
  refine ok_def (k := 0) T.d__law_over sc__law_over (by decide) fun f cdv A outer s H E hr => ⟨_,
    (pss_cons (ps_set (i := 1) sc__law_over.nd rfl (Or.inl rfl) (pe_callB (k_sum K hr) (by rfl) T.b_sum (by decide +kernel) (pa_cons (pe_lc (own := [("_law_left", 2), ("_law_right_here_here", 3)]) (g := gTup K 2 (gCons (gName 2) (gCons (gName 3) gNil))) rfl sc__law_over.nd (k_seq K (pv 0)) (blkOk_by (N := N__law_over) (sc := defScope s__law_over) (own := [("_law_left", 2), ("_law_right_here_here", 3)]) (by decide +kernel)) (fun _ _ _ _ _ => (pg_tup rfl (pgs_cons (pg_name (i := 2) sc__law_over.nd rfl (Or.inl rfl)) (pgs_cons (pg_name (i := 3) sc__law_over.nd rfl (Or.inl rfl)) pgs_nil)))) (fun _ _ _ _ _ => pts_nil) (fun _ _ _ _ _ => (pe_callTy (k_list K) (by rfl) T.b_list (by decide +kernel) (pa_cons (pv 3) pa_nil)))) (pa_cons (pe_lst pa_nil) pa_nil))))
      (pss_one (ps_ret (pe_tup (pa_cons (pe_callTy (k_tuple K) (by rfl) T.b_tuple (by decide +kernel) (pa_cons (k_sset K hr (by rfl) T.b_sorted (by rfl) T.b_set (pe_lc (own := [("_law_one", 4)]) (g := gName 4) rfl sc__law_over.nd (k_seq K (pv 1)) (blkOk_by (N := N__law_over) (sc := defScope s__law_over) (own := [("_law_one", 4)]) (by decide +kernel)) (fun _ _ _ _ _ => (pg_name (i := 4) sc__law_over.nd rfl (Or.inl rfl))) (fun _ _ _ _ _ => (pts_one (pt_val (k_lower K (pe_ix (k_ix K) (pv 4) pe_int (fun _ _ => rfl)))))) (fun _ _ _ _ _ => (pv 4)))) pa_nil)) (pa_cons pe_str (pa_cons (pe_callTy (k_tuple K) (by rfl) T.b_tuple (by decide +kernel) (pa_cons (pv 0) pa_nil)) pa_nil))))))), fun ds _ hp => ?_⟩
  obtain ⟨rs, rfl, h1, h2, h3⟩ := hp
  have hsy : (symsOf rs).length ≤ rs.length * 4 := len_flat (fun r : Rule => r.2) rs fun r hr => (ruleB_ok (h3 r hr)).2.1
  have hnm : ∀ x ∈ symsOf rs, nmB x = true := fun x hx => by
    obtain ⟨r, hr, hx⟩ := List.mem_flatMap.mp hx
    exact (ruleB_ok (h3 r hr)).2.2 x hx
  have hfl : (rs.map fun r => r.2.map PyData.str).flatten = (symsOf rs).map .str := by
    unfold symsOf
    rw [List.map_flatMap, List.flatMap_def]
  refine q_setD (d := .list ((symsOf rs).map .str)) (Ev.is (ev_cb (xs := [.list ((rs.map fun r => r.2.map PyData.str).map .list), .list []]) (ea_cons (Ev.is (ev_lcT (ps := rs.map ruleP) (wk_list (ev_var (by rw [← encR_two] <;> rfl))) (fun p => .list (rightD (two p))) (by rw [List.length_map]; omega) fun p hp => ?_) ?_) (ea_cons (ev_lst ea_nil (by simp)) ea_nil)) (rl_sumL (by rw [List.length_map]; omega) (by rw [hfl, List.length_map]; omega))) (by rw [hfl])) ?_
  · obtain ⟨r, _, rfl⟩ := List.mem_map.mp hp
    exact ev_cb (ea_cons (ev_var rfl) ea_nil) (rl_list _ (.inr rfl))
  · rw [List.map_map, List.map_map] <;> rfl
  refine run_retD (d := encG (overG rs)) (ev_tup (ea_cons (ev_cb (ea_cons (ev_sortedSet encS (bs := (symsOf rs).filter fun x => headZ x smallZ) (Ev.imp (P := fun d => d = .list (((symsOf rs).filter fun x => headZ x smallZ).map .str)) (Ev.is (ev_lcF (wk_list (ev_var rfl)) (fun d => match d with | .str x => headZ x smallZ | _ => false) (fun d => d) (by rw [List.length_map]; omega) (fun d hd => ?_) fun d hd _ => ev_var rfl) ?_) fun d e => .inl e) ?_) ea_nil) rl_tuple) (ea_cons ev_str (ea_cons (ev_cb (ea_cons (ev_var rfl) ea_nil) rl_tuple) ea_nil))) (by simp)) fun rs' e => ?_
  · obtain ⟨x, hx, rfl⟩ := List.mem_map.mp hd
    obtain ⟨k, l, e, hl, hf, ha⟩ := nmB_ok (hnm x hx)
    have hz : x.length ≤ 100000 := by
      have : x.length = (k :: l).length := by rw [← e] <;> rfl
      omega
    have q := lower_sign (ha k List.mem_cons_self)
    have eh : headZ x smallZ = inZ k smallZ := by
      unfold headZ
      rw [e]
    exact EvT.is (et_b (ev_islower (ev_op (ev_var rfl) ev_int (rd_ixS hz (by rw [e]; exact atI0))))) (q.trans eh.symm)
  · rw [List.filter_map, List.map_map]
    simp [Function.comp_def]
  · have h := List.length_filter_le (fun x => headZ x smallZ) (symsOf rs)
    omega
  · have e' : rs.map encR = rs'.map encR := by simpa using e
    rw [encRs_inj e']
end
end Sh

set_option maxHeartbeats 4000000
/-! Layer W: the cup: rolls, choices, names. -/
namespace Sh
open PySem PySem.Spec PyProof.Rows L2
section
variable {a : Addr} {δ : List Ds} {K : PySem.W.Frag} {i : Nat} {te ta tb : TE}
theorem ev_cup0 (e : δ[i]? = some (.adr a)) : Ev (some a) (tOp (rIx K) (tVar i) (tC (.int 0))) δ fun d => ∃ x : Int, d = .int x ∧ 0 ≤ x := fun M σ H w s Q q => by
  obtain ⟨m, x, y, h, h1, h2, h3⟩ := w.cup a rfl
  exact ⟨.ref a, s.adr e, .inl ⟨a, _, 0, .int x, rfl, rfl, SqL.of h, atI0, q _ _ H (Ex.refl _ H) w (.int x) ⟨x, rfl, h1⟩⟩⟩
theorem ev_cup1 (e : δ[i]? = some (.adr a)) : Ev (some a) (tOp (rIx K) (tVar i) (tC (.int 1))) δ fun d => ∃ x : Int, d = .int x ∧ 0 ≤ x ∧ x < 1099511627776 := fun M σ H w s Q q => by
  obtain ⟨m, x, y, h, h1, h2, h3⟩ := w.cup a rfl
  exact ⟨.ref a, s.adr e, .inl ⟨a, _, 1, .int y, rfl, rfl, SqL.of h, atI1, q _ _ H (Ex.refl _ H) w (.int y) ⟨y, rfl, h2, h3⟩⟩⟩
/-- a number kept in the cup -/
theorem cup_put {M : Addr → Prop} {H : Hp} {x y : Int} (w : Wd (some a) M H) (h1 : 0 ≤ x) (h2 : 0 ≤ y) (h3 : y < 1099511627776) : Ex (some a) H (upd H a (.lst [.int x, .int y])) ∧ Wd (some a) M (upd H a (.lst [.int x, .int y])) := by
  obtain ⟨m, x0, y0, h, _⟩ := w.cup a rfl
  refine ⟨fun b o n e => ?_, ⟨fun b mb => ?_, fun b e => ?_, fun b xs mb => ?_⟩⟩
  · rw [upd_ne fun z => n (by rw [z])]
    exact e
  · by_cases z : b = a
    · rw [z, upd_same]
      exact fun q => nomatch q
    · rw [upd_ne z]
      exact w.trk b mb
  · have e' : a = b := Option.some.inj e
    subst e'
    exact ⟨m, x, y, upd_same, h1, h2, h3⟩
  · by_cases z : b = a
    · rw [z, upd_same]
      exact fun q => nomatch q
    · rw [upd_ne z]
      exact w.mu b xs mb
theorem q_cup {N : List Ds → Prop} {R : PyData → Prop} {u : TS} {j : Int} {A : Int → Prop} (e : δ[i]? = some (.adr a)) (h : Ev (some a) te δ fun d => ∃ z, d = .int z ∧ A z) (hj : (j = 0 ∧ ∀ z, A z → 0 ≤ z) ∨ (j = 1 ∧ ∀ z, A z → 0 ≤ z ∧ z < 1099511627776)) (k : Run (some a) u δ N R) :
    Run (some a) (tSeq (tAsg te (gSub (tVar i) (tC (.int j)) rSetL)) u) δ N R := fun M σ H w s D q1 q2 => by
  refine h M σ H w s _ fun v d H1 e1 w1 r1 ⟨z, ed, hz⟩ => ?_
  subst ed
  cases r1
  obtain ⟨m, x, y, hc, h1, h2, h3⟩ := w1.cup a rfl
  have fin : ∀ x' y' : Int, 0 ≤ x' → 0 ≤ y' → y' < 1099511627776 → u D σ (upd H1 a (.lst [.int x', .int y'])) := fun x' y' p1 p2 p3 => by
    obtain ⟨ex, wx⟩ := cup_put w1 p1 p2 p3
    exact k M σ _ wx ((s.ex w e1).ex w1 ex) D (fun σ' δ' H' e' => q1 σ' δ' H' ((e1.trans ex).trans e')) fun v d H' e' => q2 v d H' ((e1.trans ex).trans e')
  rcases hj with ⟨rfl, hA⟩ | ⟨rfl, hA⟩
  · refine ⟨.ref a, (s.ex w e1).adr e, a, _, 0, 0, rfl, rfl, hc, rfl, ?_⟩
    exact fin z y (hA z hz) h2 h3
  · refine ⟨.ref a, (s.ex w e1).adr e, a, _, 1, 1, rfl, rfl, hc, rfl, ?_⟩
    exact fin x z h1 (hA z hz).1 (hA z hz).2
/-- int(..) of an int -/
theorem ev_intP {P : Int → Prop} (h : Ev (some a) te δ fun d => ∃ z, d = .int z ∧ P z) : Ev (some a) (tCB rInt1 (tCons te tNil)) δ fun d => ∃ z, d = .int z ∧ P z :=
  ev_cbP (ea_consP (R := fun xs => ∃ z, xs = [.int z] ∧ P z) h ea_nil fun x xs ⟨z, e, hz⟩ e2 => ⟨z, by rw [e, e2], hz⟩) fun xs ⟨z, e, hz⟩ => by
    subst e
    exact fun M H vs t r Q q => rl_int M H vs t r Q fun z' d H' e' r' hd => q z' d H' e' r' ⟨z, hd, hz⟩
theorem ev_op2 {C : Int → Int → Prop} {g : Int → Int → Int} {P R : Int → Prop} {S : Int → Prop} (h1 : Ev (some a) ta δ fun d => ∃ z, d = .int z ∧ P z) (h2 : Ev (some a) tb δ fun d => ∃ z, d = .int z ∧ R z) (hC : ∀ x y, P x → R y → C x y ∧ S (g x y)) :
    Ev (some a) (tOp (rI C fun i j => .int (g i j)) ta tb) δ fun d => ∃ z, d = .int z ∧ S z :=
  ev_opP h1 h2 fun x y ⟨u, eu, hu⟩ ⟨v, ev, hv⟩ => by
    subst eu
    subst ev
    obtain ⟨c1, c2⟩ := hC u v hu hv
    exact fun M H v' u' t r1 r2 Q q => rd_I c1 M H v' u' t r1 r2 Q fun z d H' e' r' hd => q z d H' e' r' ⟨_, hd, c2⟩
theorem ev_add2 {P R S : Int → Prop} (h1 : Ev (some a) ta δ fun d => ∃ z, d = .int z ∧ P z) (h2 : Ev (some a) tb δ fun d => ∃ z, d = .int z ∧ R z) (hC : ∀ x y, P x → R y → S (x + y)) :
    Ev (some a) (tOp rAddA ta tb) δ fun d => ∃ z, d = .int z ∧ S z :=
  ev_opP h1 h2 fun x y ⟨u, eu, hu⟩ ⟨v, ev, hv⟩ => by
    subst eu
    subst ev
    exact fun M H v' u' t r1 r2 Q q => rd_addI M H v' u' t r1 r2 Q fun z d H' e' r' hd => q z d H' e' r' ⟨_, hd, hC u v hu hv⟩
theorem et_tP {c : Option Addr} {B : Bool → Prop} (h : Ev c te δ fun d => ∃ b, d = .bool b ∧ B b) : EvT c (tTest te) δ B := fun M σ H w s Q q => by
  refine h M σ H w s _ fun v d H1 e1 w1 r1 ⟨b, e, hb⟩ => ?_
  subst e
  cases r1
  exact ⟨b, rfl, q b H1 e1 w1 hb⟩
theorem ev_cmp2 {c : Option Addr} {g : Int → Int → Bool} {P R : Int → Prop} {S : Bool → Prop} (h1 : Ev c ta δ fun d => ∃ z, d = .int z ∧ P z) (h2 : Ev c tb δ fun d => ∃ z, d = .int z ∧ R z) (hC : ∀ x y, P x → R y → S (g x y)) :
    Ev c (tOp (rI0 fun i j => .bl (g i j)) ta tb) δ fun d => ∃ z, d = .bool z ∧ S z :=
  ev_opP h1 h2 fun x y ⟨u, eu, hu⟩ ⟨v, ev, hv⟩ => by
    subst eu
    subst ev
    exact fun M H v' u' t r1 r2 Q q => rd_cmp M H v' u' t r1 r2 Q fun z d H' e' r' hd => q z d H' e' r' ⟨_, hd, hC u v hu hv⟩
theorem ev_i {n : Int} : Ev (some a) (tC (.int n)) δ fun d => ∃ z, d = .int z ∧ z = n := Ev.imp ev_int fun d e => ⟨n, e, rfl⟩
theorem ev_v {n : Int} (e : δ[i]? = some (.dat (.int n))) : Ev (some a) (tVar i) δ fun d => ∃ z, d = .int z ∧ z = n := Ev.imp (ev_var e) fun d e => ⟨n, e, rfl⟩
end
section
variable {Pg : Program} {w : World} {K : PySem.W.Frag} {mg : Str → Option Value} {base : Heap}
abbrev spRoll : Sp := spG 1 (fun ds => ∃ m : Int, ds = [.int m] ∧ 0 < m ∧ m ≤ 1000) fun ds d => ∀ m : Int, ds = [.int m] → ∃ k : Int, d = .int k ∧ 0 ≤ k ∧ k < m
theorem ok__law_roll (T : Tb K mg) : Ok Pg w K mg base "_law_roll" ["_law_cup_here", "_law_many"] 1 spRoll := by
  refine ok_defG (k := 0) T.d__law_roll sc__law_roll (by decide) rfl fun f cdv A outer s H E hr => ⟨_,
    (pss_cons (ps_if (pt_cmpR (op_gt) (pe_ix (k_ix K) (pv 0) pe_int (fun _ _ => rfl)) pe_int (nomark _)) (pss_cons (ps_set (i := 2) sc__law_roll.nd rfl (Or.inl rfl) (pe_op op_mod (pe_callTy call_intA (by rfl) T.b_int (by decide +kernel) (pa_cons (pe_ix (k_ix K) (pv 0) pe_int (fun _ _ => rfl)) pa_nil)) (pv 1)))
      (pss_cons (ps_asg (pe_op op_fdiv (pe_ix (k_ix K) (pv 0) pe_int (fun _ _ => rfl)) (pv 1)) (pg_sub (pv 0) pe_int set_list))
      (pss_one (ps_ret (pv 2))))) pss_nil)
      (pss_cons (ps_asg (pe_op op_mod (pe_callTy call_intA (by rfl) T.b_int (by decide +kernel) (pa_cons (pe_op op_addA (pe_op op_mul (pe_ix (k_ix K) (pv 0) pe_int (fun _ _ => rfl)) pe_int) pe_int) pa_nil)) pe_int) (pg_sub (pv 0) pe_int set_list))
      (pss_cons (ps_set (i := 3) sc__law_roll.nd rfl (Or.inl rfl) (pe_op op_mod (pe_callTy call_intA (by rfl) T.b_int (by decide +kernel) (pa_cons (pe_op op_mul (pe_ix (k_ix K) (pv 0) pe_int (fun _ _ => rfl)) (pe_op op_addA (pe_ix (k_ix K) (pv 0) pe_int (fun _ _ => rfl)) pe_int)) pa_nil)) pe_int))
      (pss_one (ps_ret (pe_op op_mod (pe_callTy call_intA (by rfl) T.b_int (by decide +kernel) (pa_cons (pe_op op_fdiv (pv 3) pe_int) pa_nil)) (pv 1))))))), fun a ds _ hp => ?_⟩
  obtain ⟨m, rfl, h1, h2⟩ := hp
  have post : ∀ d, (∃ z : Int, d = PyData.int z ∧ 0 ≤ z ∧ z < m) → ∀ m' : Int, [PyData.int m] = [.int m'] → ∃ k : Int, d = .int k ∧ 0 ≤ k ∧ k < m' := fun d ⟨z, e, hz⟩ m' e' => by
    have e2 : m = m' := by simpa using e'
    rw [← e2]
    exact ⟨z, e, hz⟩
  refine q_if (B := fun _ => True) (et_tP (ev_cmp2 (ev_cup0 rfl) ev_i fun _ _ _ _ => trivial)) (fun _ => ?_) fun _ => ?_
  · refine q_set (A := fun d => ∃ z, d = .int z ∧ 0 ≤ z ∧ z < m) (ev_op2 (g := fun i j => i % j) (ev_intP (ev_cup0 rfl)) (ev_v rfl) fun x y hx hy => ?_) fun d ⟨z, e, hz⟩ => ?_
    · rw [hy]
      exact ⟨h1, Int.emod_nonneg _ (by omega), Int.emod_lt_of_pos _ h1⟩
    · refine q_cup (A := fun z => 0 ≤ z) rfl (ev_op2 (g := fun i j => i / j) (ev_cup0 rfl) (ev_v rfl) fun x y hx hy => ?_) (.inl ⟨rfl, fun _ h => h⟩) (run_ret (Ev.imp (ev_var rfl) fun d' e' => post d' ⟨z, e'.trans e, hz⟩))
      rw [hy]
      exact ⟨⟨h1, by omega⟩, Int.ediv_nonneg hx (by omega)⟩
  · refine q_cup (A := fun z => 0 ≤ z ∧ z < 1099511627776) rfl (ev_op2 (g := fun i j => i % j) (ev_intP (ev_add2 (S := fun _ => True) (ev_op2 (g := fun i j => i * j) (S := fun _ => True) (ev_cup1 rfl) ev_i fun x y hx hy => ⟨.inl ⟨by omega, by omega⟩, trivial⟩) ev_i fun _ _ _ _ => trivial)) ev_i fun x y hx hy => ?_) (.inr ⟨rfl, fun _ h => h⟩) ?_
    · rw [hy]
      refine ⟨by decide, Int.emod_nonneg _ (by decide), ?_⟩
      have := Int.emod_lt_of_pos x (show (0 : Int) < 2147483543 by decide)
      omega
    · refine q_set (A := fun d => ∃ z, d = .int z ∧ True) (ev_op2 (g := fun i j => i % j) (ev_intP (ev_op2 (g := fun i j => i * j) (S := fun _ => True) (ev_cup1 rfl) (ev_add2 (S := fun _ => True) (ev_cup1 rfl) ev_i fun _ _ _ _ => trivial) fun x y hx hy => ⟨.inl ⟨by omega, by omega⟩, trivial⟩)) ev_i fun x y hx hy => ?_) fun d ⟨z, e, _⟩ => ?_
      · rw [hy]
        exact ⟨by decide, trivial⟩
      · subst e
        refine run_ret (Ev.imp (ev_op2 (g := fun i j => i % j) (S := fun z => 0 ≤ z ∧ z < m) (ev_intP (ev_op2 (g := fun i j => i / j) (S := fun _ => True) (ev_v rfl) ev_i fun x y hx hy => ?_)) (ev_v rfl) fun x y hx hy => ?_) fun d h => post d h)
        · rw [hy]
          exact ⟨⟨by decide, by decide⟩, trivial⟩
        · rw [hy]
          exact ⟨h1, Int.emod_nonneg _ (by omega), Int.emod_lt_of_pos _ h1⟩
end
end Sh

set_option maxHeartbeats 4000000
/-! Layer X: choices, names; the makers' parts. -/
namespace Sh
open PySem PySem.Spec PyProof.Rows L2
def pool : List Str := ["ba", "du", "fi", "go", "ke", "lu", "mo", "pi"]
def nmAt (s t : Int) (n : Int) : Str := pool.getD ((s + t * n) % 8).toNat ""
def nameL (s t : Int) (m : Nat) : List Str := (List.range m).map fun n => nmAt s t (n : Nat)
theorem pool_at {i : Int} (h0 : 0 ≤ i) (h8 : i < 8) : atI (pool.map PyData.str) i = some (.str (pool.getD i.toNat "")) := by
  refine atI_nat' h0 ?_
  have hl : i.toNat < pool.length := by
    show i.toNat < 8
    omega
  rw [List.getElem?_map, List.getElem?_eq_getElem hl, List.getD_eq_getElem?_getD, List.getElem?_eq_getElem hl] <;> rfl
section
variable {a : Addr} {δ : List Ds} {K : PySem.W.Frag} {i : Nat} {tl : TA} {E : XK}
theorem ev_roll {m : Int} (e : δ[i]? = some (.adr a)) (h : EvL (some a) tl δ [.int m]) (h0 : 0 < m) (h1 : m ≤ 1000) : Ev (some a) (tCall spRoll [] E (tCons (tVar i) tl)) δ fun d => ∃ k : Int, d = .int k ∧ 0 ≤ k ∧ k < m :=
  ev_callG e h (fun ds e => e ▸ ⟨rfl, m, rfl, h0, h1⟩) fun ds d e hd => hd m e
abbrev spSome : Sp := spG 1 (fun ds => ∃ xs : List PyData, ds = [.list xs] ∧ 0 < xs.length ∧ xs.length ≤ 1000) fun ds d => ∀ xs : List PyData, ds = [.list xs] → d ∈ xs
theorem ev_some {xs : List PyData} (e : δ[i]? = some (.adr a)) (h : EvL (some a) tl δ [.list xs]) (h0 : 0 < xs.length) (h1 : xs.length ≤ 1000) : Ev (some a) (tCall spSome [] E (tCons (tVar i) tl)) δ fun d => d ∈ xs :=
  ev_callG e h (fun ds e => e ▸ ⟨rfl, xs, rfl, h0, h1⟩) fun ds d e hd => hd xs e
theorem ev_someP {A : List PyData → Prop} (e : δ[i]? = some (.adr a)) (h : EvA (some a) tl δ fun ds => ∃ xs, ds = [.list xs] ∧ A xs ∧ 0 < xs.length ∧ xs.length ≤ 1000) : Ev (some a) (tCall spSome [] E (tCons (tVar i) tl)) δ fun d => ∃ xs, A xs ∧ d ∈ xs :=
  ev_callG e h (fun ds ⟨xs, e, _, h0, h1⟩ => e ▸ ⟨rfl, xs, rfl, h0, h1⟩) fun ds d ⟨xs, e, ha, _⟩ hd => ⟨xs, ha, hd xs e⟩
end
section
variable {Pg : Program} {w : World} {K : PySem.W.Frag} {mg : Str → Option Value} {base : Heap}
theorem ok__law_some (T : Tb K mg) : Ok Pg w K mg base "_law_some" ["_law_cup_here", "_law_things"] 2 spSome := by
  have O__law_roll := ok__law_roll (Pg := Pg) (w := w) (base := base) T
  refine ok_defG (k := 1) T.d__law_some sc__law_some (by decide) rfl fun f cdv A outer s H E hr => ⟨_,
    (pss_one (ps_ret (pe_ix (k_ix K) (pv 1) (pe_callD O__law_roll (hr.mono (by decide)) (by rfl) (pa_cons (pv 0) (pa_cons (pe_callB (k_len K) (by rfl) T.b_len (by decide +kernel) (pa_cons (pv 1) pa_nil)) pa_nil))) (fun _ _ => rfl)))), fun a ds _ hp => ?_⟩
  obtain ⟨xs, rfl, h0, h1⟩ := hp
  refine run_ret (ev_opP (A := fun d => d = .list xs) (B := fun d => ∃ k : Int, d = .int k ∧ 0 ≤ k ∧ k < xs.length) (ev_var rfl) (ev_roll rfl (ev_cb (ea_cons (ev_var rfl) ea_nil) rl_lenL |> fun h => ea_consP h ea_nil fun x ys e1 e2 => by rw [e1, e2]) (by omega) (by omega)) fun x y ex ⟨k, ey, k0, k1⟩ => ?_)
  subst ex
  subst ey
  have hl : k.toNat < xs.length := by omega
  exact fun M H v u t r1 r2 Q q => rd_ixL (atI_nat' k0 (List.getElem?_eq_getElem hl)) M H v u t r1 r2 Q fun z d H' e' r' hd => q z d H' e' r' fun ys e => by
    have e2 : xs = ys := by simpa using e
    rw [← e2, hd]
    exact List.getElem_mem hl
def stepsL : List Int := [1, 3, 5, 7]
abbrev spNamed : Sp := spG 1 (fun ds => ∃ m : Nat, ds = [.int (m : Nat)] ∧ m ≤ 100) fun ds d => ∀ m : Nat, ds = [.int (m : Nat)] → ∃ s t : Int, d = .list ((nameL s t m).map .str) ∧ 0 ≤ s ∧ s < 8 ∧ t ∈ stepsL
theorem ok__law_named (T : Tb K mg) : Ok Pg w K mg base "_law_named" ["_law_cup_here", "_law_many"] 3 spNamed := by
  have O__law_roll := ok__law_roll (Pg := Pg) (w := w) (base := base) T
  have O__law_some := ok__law_some (Pg := Pg) (w := w) (base := base) T
  refine ok_defG (k := 2) T.d__law_named sc__law_named (by decide) rfl fun f cdv A outer s H E hr => ⟨_,
    (pss_cons (ps_asg (pe_tup (pa_cons (pe_lst (pa_cons pe_str (pa_cons pe_str (pa_cons pe_str (pa_cons pe_str (pa_cons pe_str (pa_cons pe_str (pa_cons pe_str (pa_cons pe_str pa_nil))))))))) (pa_cons (pe_callD O__law_roll (hr.mono (by decide)) (by rfl) (pa_cons (pv 0) (pa_cons pe_int pa_nil))) (pa_cons (pe_callD O__law_some (hr.mono (by decide)) (by rfl) (pa_cons (pv 0) (pa_cons (pe_lst (pa_cons pe_int (pa_cons pe_int (pa_cons pe_int (pa_cons pe_int pa_nil))))) pa_nil))) pa_nil)))) (pg_tup rfl (pgs_cons (pg_name (i := 2) sc__law_named.nd rfl (Or.inr rfl)) (pgs_cons (pg_name (i := 3) sc__law_named.nd rfl (Or.inr rfl)) (pgs_cons (pg_name (i := 4) sc__law_named.nd rfl (Or.inr rfl)) pgs_nil)))))
      (pss_one (ps_ret (pe_lc (own := [("_law_at", 5)]) (g := gName 5) rfl sc__law_named.nd (pi_range1 (by rfl) T.b_range (pa_cons (pv 1) pa_nil)) (blkOk_by (N := N__law_named) (sc := defScope s__law_named) (own := [("_law_at", 5)]) (by decide +kernel)) (fun _ _ _ _ _ => (pg_name (i := 5) sc__law_named.nd rfl (Or.inl rfl))) (fun _ _ _ _ _ => pts_nil) (fun _ _ _ _ _ => (pe_ix (k_ix K) (pv 2) (pe_op op_mod (pe_op op_addA (pv 3) (pe_op op_mul (pv 4) (pv 5))) pe_int) (fun _ _ => rfl))))))), fun a ds _ hp => ?_⟩
  obtain ⟨m, rfl, hm⟩ := hp
  refine q_asg (A := fun d => ∃ s t : Int, d = .tuple [.list (pool.map .str), .int s, .int t] ∧ 0 ≤ s ∧ s < 8 ∧ t ∈ stepsL) (ev_tupP (B := fun xs => ∃ s t : Int, xs = [.list (pool.map .str), .int s, .int t] ∧ 0 ≤ s ∧ s < 8 ∧ t ∈ stepsL)
    (ea_consP (A := fun d => d = .list (pool.map .str)) (B := fun xs => ∃ s t : Int, xs = [.int s, .int t] ∧ 0 ≤ s ∧ s < 8 ∧ t ∈ stepsL)
      (ev_lst (xs := pool.map .str) (ea_cons ev_str (ea_cons ev_str (ea_cons ev_str (ea_cons ev_str (ea_cons ev_str (ea_cons ev_str (ea_cons ev_str (ea_cons ev_str ea_nil)))))))) (by decide))
      (ea_consP (B := fun xs => ∃ t : Int, xs = [.int t] ∧ t ∈ stepsL) (ev_roll rfl (ea_cons ev_int ea_nil) (by decide) (by decide))
        (ea_consP (ev_some (xs := stepsL.map .int) rfl (ea_cons (ev_lst (ea_cons ev_int (ea_cons ev_int (ea_cons ev_int (ea_cons ev_int ea_nil)))) (by decide)) ea_nil) (by decide) (by decide)) ea_nil fun x xs hx e => by
          obtain ⟨t, ht, rfl⟩ := List.mem_map.mp hx
          exact ⟨t, by rw [e], ht⟩)
        fun x xs ⟨s, ex, h0, h8⟩ ⟨t, e, ht⟩ => ⟨s, t, by rw [ex, e], h0, h8, ht⟩)
      fun x xs ex ⟨s, t, e, h⟩ => ⟨s, t, by rw [ex, e], h⟩) fun xs ⟨s, t, e, h⟩ => ⟨by rw [e]; simp, s, t, by rw [e], h⟩) fun d ⟨s, t, e, h0, h8, ht⟩ => ⟨_, _, e ▸ gb_tup3, ?_⟩
  have t4 : 0 ≤ t ∧ t ≤ 7 := by
    have : ∀ t ∈ stepsL, 0 ≤ t ∧ t ≤ 7 := by decide
    exact this t ht
  refine run_retD (d := .list ((nameL s t m).map .str)) (Ev.is (ev_lcN (wk_num (n := m) (ea_cons (ev_var rfl) ea_nil) (by omega)) (fun d => .str (nmAt s t (intOf d))) (by rw [numD_len]; omega) fun d hd => ?_) ?_) fun m' e' => ?_
  · obtain ⟨n, hn, rfl⟩ := List.mem_map.mp hd
    exact ev_op (ev_var rfl) (ev_op (ev_op (ev_var rfl) (ev_op (ev_var rfl) (ev_var rfl) (rd_I (g := fun i j => i * j) (.inl ⟨by omega, by omega⟩))) rd_addI) ev_int (rd_I (g := fun i j => i % j) (by decide))) (rd_ixL (pool_at (Int.emod_nonneg _ (by decide)) (Int.emod_lt_of_pos _ (by decide))))
  · unfold numD nameL
    rw [List.map_map, List.map_map] <;> rfl
  · have e2 : (m : Int) = (m' : Int) := by simpa using e'
    have e3 : m = m' := by omega
    rw [← e3]
    exact ⟨s, t, rfl, h0, h8, ht⟩
end
end Sh

set_option maxHeartbeats 4000000
/-! Layer Y: the makers of known grammars. -/
namespace Sh
open PySem PySem.Spec PyProof.Rows L2
/-! ### one of a few values -/
def sL : List Int := [0, 1, 2, 3, 4, 5, 6, 7]
theorem mem_sL {s : Int} (h0 : 0 ≤ s) (h8 : s < 8) : s ∈ sL := by
  have : s = 0 ∨ s = 1 ∨ s = 2 ∨ s = 3 ∨ s = 4 ∨ s = 5 ∨ s = 6 ∨ s = 7 := by omega
  rcases this with e | e | e | e | e | e | e | e <;> subst e <;> decide
def strsD : List PyData → Option (List Str)
  | [] => some []
  | .str x :: r => (strsD r).map (x :: ·)
  | _ => none
def decR : PyData → Option Rule
  | .tuple [.str l, .tuple xs] => (strsD xs).map fun ys => (l, ys)
  | _ => none
def decRs : List PyData → Option (List Rule)
  | [] => some []
  | d :: r => match decR d, decRs r with
    | some x, some xs => some (x :: xs)
    | _, _ => none
def okRules : PyData → Bool
  | .list xs => match decRs xs with
    | some rs => valid (overG rs)
    | none => false
  | _ => false
theorem strsD_ok : ∀ {xs : List PyData} {ys : List Str}, strsD xs = some ys → xs = ys.map .str
  | [], ys, h => by
    cases h
    rfl
  | .str x :: r, ys, h => by
    have h' : (strsD r).map (x :: ·) = some ys := h
    obtain ⟨zs, h1, h2⟩ := Option.map_eq_some_iff.mp h'
    rw [← h2, strsD_ok h1] <;> rfl
  | .none :: _, _, h => by cases h
  | .bool _ :: _, _, h => by cases h
  | .int _ :: _, _, h => by cases h
  | .list _ :: _, _, h => by cases h
  | .tuple _ :: _, _, h => by cases h
  | .dict _ :: _, _, h => by cases h
theorem decR_ok {d : PyData} {r : Rule} (h : decR d = some r) : d = encR r := by
  unfold decR at h
  split at h
  · obtain ⟨ys, h1, h2⟩ := Option.map_eq_some_iff.mp h
    rw [← h2, strsD_ok h1] <;> rfl
  · cases h
theorem decRs_ok : ∀ {xs : List PyData} {rs : List Rule}, decRs xs = some rs → xs = rs.map encR
  | [], rs, h => by
    cases h
    rfl
  | d :: r, rs, h => by
    unfold decRs at h
    split at h
    · rename_i x xs h1 h2
      have e : x :: xs = rs := Option.some.inj h
      rw [← e, decR_ok h1, decRs_ok h2] <;> rfl
    · cases h
theorem okRules_ok {d : PyData} (h : okRules d = true) : ∃ rs, d = .list (rs.map encR) ∧ Valid (overG rs) := by
  unfold okRules at h
  split at h
  · split at h
    · rename_i rs e
      exact ⟨rs, by rw [decRs_ok e], valid_ok h⟩
    · cases h
  · cases h
section
variable {c : Option Addr} {δ : List Ds} {K : PySem.W.Frag} {te ta tb : TE} {tt : TT} {tl : TA} {E : XK} {i : Nat}
abbrev EvQ (c : Option Addr) (te : TE) (δ : List Ds) (S : List PyData) : Prop := Ev c te δ fun d => d ∈ S
def EvN (c : Option Addr) (tl : TA) (δ : List Ds) (n : Nat) (SS : List (List PyData)) : Prop := EvA c tl δ fun ds => ds.length = n ∧ ds ∈ SS
theorem eq1 {d : PyData} (h : EvD c te δ d) : EvQ c te δ [d] := h.imp fun x e => by rw [e]; exact List.mem_singleton.mpr rfl
theorem eqv {d : PyData} (e : δ[i]? = some (.dat d)) : EvQ c (tVar i) δ [d] := eq1 (ev_var e)
theorem eqs {z : Str} : EvQ c (tC (.str z)) δ [.str z] := eq1 ev_str
theorem en_nil : EvN c tNil δ 0 [[]] := EvA.imp ea_nil fun ds e => by rw [e]; exact ⟨rfl, List.mem_singleton.mpr rfl⟩
theorem en_cons {n : Nat} {S : List PyData} {SS : List (List PyData)} (h : EvQ c te δ S) (k : EvN c tl δ n SS) : EvN c (tCons te tl) δ (n + 1) (S.flatMap fun x => SS.map (x :: ·)) := ea_consP h k fun x xs hx ⟨hn, hxs⟩ => ⟨by rw [List.length_cons, hn], List.mem_flatMap.mpr ⟨x, hx, List.mem_map.mpr ⟨xs, hxs, rfl⟩⟩⟩
theorem eq_tup {n : Nat} {SS : List (List PyData)} (h : EvN c tl δ n SS) (hn : n ≤ 100000 := by decide) : EvQ c (tTup tl) δ (SS.map .tuple) := ev_tupP h fun xs ⟨h1, h2⟩ => ⟨by omega, List.mem_map.mpr ⟨xs, h2, rfl⟩⟩
theorem eq_lst {n : Nat} {SS : List (List PyData)} (h : EvN c tl δ n SS) (hn : n ≤ 100000 := by decide) : EvQ c (tLst tl) δ (SS.map .list) := ev_lstP h fun xs ⟨h1, h2⟩ => ⟨by omega, List.mem_map.mpr ⟨xs, h2, rfl⟩⟩
theorem eq_if {S1 S2 : List PyData} (h : EvT c tt δ fun _ => True) (h1 : EvQ c ta δ S1) (h2 : EvQ c tb δ S2) : EvQ c (tIf tt ta tb) δ (S1 ++ S2) :=
  ev_ifP h (fun _ => Ev.imp h1 fun d hd => List.mem_append_left _ hd) fun _ => Ev.imp h2 fun d hd => List.mem_append_right _ hd
def itemsD : PyData → List PyData
  | .list xs => xs
  | _ => []
def fewD : PyData → Bool
  | .list xs => decide (0 < xs.length) && decide (xs.length ≤ 1000)
  | _ => false
def listD : PyData → Bool
  | .list xs => decide (xs.length ≤ 1000)
  | _ => false
theorem eq_some {a : Addr} {S : List PyData} (e : δ[i]? = some (.adr a)) (h : EvQ (some a) te δ S) (hf : S.all fewD = true := by kernel_rfl) : EvQ (some a) (tCall spSome [] E (tCons (tVar i) (tCons te tNil))) δ (S.flatMap itemsD) :=
  Ev.imp (ev_someP (A := fun xs => PyData.list xs ∈ S) e (ea_consP h ea_nil fun x xs hx ex => by
    have q := List.all_eq_true.mp hf x hx
    cases x with
    | list ys =>
      have q' : (decide (0 < ys.length) && decide (ys.length ≤ 1000)) = true := q
      rw [Bool.and_eq_true, decide_eq_true_eq, decide_eq_true_eq] at q'
      exact ⟨ys, by rw [ex], hx, q'.1, q'.2⟩
    | _ => cases q)) fun d ⟨xs, hx, hd⟩ => List.mem_flatMap.mpr ⟨_, hx, hd⟩
theorem eq_add {S1 S2 : List PyData} (h1 : EvQ c ta δ S1) (h2 : EvQ c tb δ S2) (f1 : S1.all listD = true := by kernel_rfl) (f2 : S2.all listD = true := by kernel_rfl) : EvQ c (tOp rAddA ta tb) δ (S1.flatMap fun x => S2.map fun y => .list (itemsD x ++ itemsD y)) :=
  ev_opP h1 h2 fun x y hx hy => by
    have q1 := List.all_eq_true.mp f1 x hx
    have q2 := List.all_eq_true.mp f2 y hy
    cases x with
    | list xs =>
      cases y with
      | list ys =>
        have p1 : xs.length ≤ 1000 := of_decide_eq_true q1
        have p2 : ys.length ≤ 1000 := of_decide_eq_true q2
        exact fun M H v u t r1 r2 Q q => rd_addL (by omega) M H v u t r1 r2 Q fun z d H' e' r' hd => q z d H' e' r' (by rw [hd]; exact List.mem_flatMap.mpr ⟨_, hx, List.mem_map.mpr ⟨_, hy, rfl⟩⟩)
      | _ => cases q2
    | _ => cases q1
theorem one_list {S : List PyData} {d : PyData} (hd : d ∈ S) (h : S.all listD = true := by kernel_rfl) : [d].all listD = true := by
  rw [List.all_cons, List.all_eq_true.mp h d hd] <;> rfl
/-- the one value -/
abbrev oneD (S : List PyData) : PyData := S.headD .none
theorem q_set1 {N : List Ds → Prop} {R : PyData → Prop} {u : TS} {j : Nat} {S : List PyData} (h : EvQ c te δ S) (k : Run c u (δ.set j (.dat (oneD S))) N R) (h1 : S = [oneD S] := by kernel_rfl) : Run c (tSeq (tAsg te (gName j)) u) δ N R :=
  q_setD (d := oneD S) (Ev.imp h fun d hd => by
    rw [h1] at hd
    exact List.mem_singleton.mp hd) k
/-- roll(cup, m) == 0 as a test -/
theorem et_roll {a : Addr} {m n : Int} (e : δ[i]? = some (.adr a)) (h0 : 0 < m) (h1 : m ≤ 1000) : EvT (some a) (tTest (tOp (rEqD K) (tCall spRoll [] E (tCons (tVar i) (tCons (tC (.int m)) tNil))) (tC (.int n)))) δ fun _ => True :=
  et_tP (ev_opP (B := fun d => d = .int n) (ev_roll e (ea_cons ev_int ea_nil) h0 h1) ev_int fun x y ⟨k, ex, _⟩ ey => by
    subst ex
    subst ey
    exact fun M H v u t r1 r2 Q q => rd_eq rfl rfl M H v u t r1 r2 Q fun z d H' e' r' hd => q z d H' e' r' ⟨_, hd, trivial⟩)
theorem eq_over {S : List PyData} (h : EvQ c te δ S) (hall : ∀ d ∈ S, okRules d = true) : Ev c (tCall spOver [] E (tCons te tNil)) δ fun d => ∃ g, d = encG g ∧ Valid g :=
  ev_callP (A := fun ds => ∃ rs : List Rule, ds = [.list (rs.map encR)] ∧ Valid (overG rs)) (ea_consP h ea_nil fun x xs hx ex => by
    obtain ⟨rs, e, v⟩ := okRules_ok (hall x hx)
    exact ⟨rs, by rw [ex, e], v⟩) (fun ds ⟨rs, e, v⟩ => ⟨by rw [e] <;> rfl, rs, e, v.r1, v.r2, v.rule⟩) fun ds d ⟨rs, e, v⟩ hd => ⟨_, hd rs e, v⟩
end
section
variable {Pg : Program} {w : World} {K : PySem.W.Frag} {mg : Str → Option Value} {base : Heap}
abbrev spMaker : Sp := spG 0 (fun ds => ds = []) fun _ d => ∃ g, d = encG g ∧ Valid g
/-- the names, taken apart -/
theorem q_names {a : Addr} {δ : List Ds} {N : List Ds → Prop} {R : PyData → Prop} {u : TS} {m : Nat} {is : List Nat} {E : XK} {n : Nat} {i : Nat} (e : δ[i]? = some (.adr a)) (hm : m ≤ 100) (hi : is.length = m) (hn : n = m)
    (k : ∀ s t : Int, s ∈ sL → t ∈ stepsL → Run (some a) u (setDs δ is ((nameL s t m).map .str)) N R) :
    Run (some a) (tSeq (tAsg (tCall spNamed [] E (tCons (tVar i) (tCons (tC (.int (m : Nat))) tNil))) (gUnl K n (gNames is))) u) δ N R :=
  q_asg (A := fun d => ∃ s t : Int, d = .list ((nameL s t m).map .str) ∧ 0 ≤ s ∧ s < 8 ∧ t ∈ stepsL) (ev_callG (A := fun ds => ds = [.int (m : Nat)]) e (ea_cons ev_int ea_nil) (fun ds e => e ▸ ⟨rfl, m, rfl, hm⟩) fun ds d e hd => hd m e)
    fun d ⟨s, t, ed, h0, h8, ht⟩ => ⟨_, _, ed ▸ gb_unl (by rw [hi, List.length_map, nameL, List.length_map, List.length_range]) (by rw [hn, hi]), k s t (mem_sL h0 h8) ht⟩
end
end Sh

set_option maxHeartbeats 4000000
/-! Layer Z: the makers, one by one. -/
namespace Sh
open PySem PySem.Spec PyProof.Rows L2
section
variable {Pg : Program} {w : World} {K : PySem.W.Frag} {mg : Str → Option Value} {base : Heap}
theorem ok__law_list_grammar (T : Tb K mg) : Ok Pg w K mg base "_law_list_grammar" ["_law_cup_here"] 4 spMaker := by
  have O__law_roll := ok__law_roll (Pg := Pg) (w := w) (base := base) T
  have O__law_some := ok__law_some (Pg := Pg) (w := w) (base := base) T
  have O__law_named := ok__law_named (Pg := Pg) (w := w) (base := base) T
  have O__law_over := ok__law_over (Pg := Pg) (w := w) (base := base) T
  refine ok_defG (k := 3) T.d__law_list_grammar sc__law_list_grammar (by decide) rfl fun f cdv A outer s H E hr => ⟨_,
    (pss_cons (ps_asg (pe_callD O__law_named (hr.mono (by decide)) (by rfl) (pa_cons (pv 0) (pa_cons pe_int pa_nil))) (pg_unl rfl (pgs_cons (pg_name (i := 1) sc__law_list_grammar.nd rfl (Or.inl rfl)) (pgs_cons (pg_name (i := 2) sc__law_list_grammar.nd rfl (Or.inl rfl)) (pgs_cons (pg_name (i := 3) sc__law_list_grammar.nd rfl (Or.inl rfl)) pgs_nil)))))
      (pss_cons (ps_set (i := 4) sc__law_list_grammar.nd rfl (Or.inl rfl) (pe_lst (pa_cons (pe_tup (pa_cons pe_str (pa_cons (pe_ifExp (pt_cmpR (k_eq K hr.units) (pe_callD O__law_roll (hr.mono (by decide)) (by rfl) (pa_cons (pv 0) (pa_cons pe_int pa_nil))) pe_int (nomark _)) (pe_tup (pa_cons pe_str (pa_cons (pv 2) (pa_cons pe_str pa_nil)))) (pe_tup (pa_cons pe_str (pa_cons (pv 2) (pa_cons pe_str pa_nil))))) pa_nil))) (pa_cons (pe_tup (pa_cons pe_str (pa_cons (pe_tup (pa_cons pe_str pa_nil)) pa_nil))) (pa_cons (pe_tup (pa_cons pe_str (pa_cons (pe_tup (pa_cons (pv 1) pa_nil)) pa_nil))) pa_nil)))))
      (pss_one (ps_ret (pe_callD O__law_over (hr.mono (by decide)) (by rfl) (pa_cons (pe_op op_addA (pv 4) (pe_callD O__law_some (hr.mono (by decide)) (by rfl) (pa_cons (pv 0) (pa_cons (pe_lst (pa_cons (pe_lst pa_nil) (pa_cons (pe_lst (pa_cons (pe_tup (pa_cons pe_str (pa_cons (pe_tup (pa_cons (pv 1) (pa_cons (pv 3) pa_nil))) pa_nil))) pa_nil)) (pa_cons (pe_lst (pa_cons (pe_tup (pa_cons pe_str (pa_cons (pe_tup (pa_cons (pv 3) pa_nil)) pa_nil))) pa_nil)) pa_nil)))) pa_nil)))) pa_nil)))))), fun a ds _ hp => ?_⟩
  subst hp
  refine q_names (is := [1, 2, 3]) (m := 3) rfl (by decide) rfl rfl fun s t hs ht => ?_
  refine q_set ((eq_lst (en_cons (eq_tup (en_cons eqs (en_cons (eq_if (et_roll rfl (by decide) (by decide)) (eq_tup (en_cons eqs (en_cons (eqv rfl) (en_cons eqs en_nil)))) (eq_tup (en_cons eqs (en_cons (eqv rfl) (en_cons eqs en_nil))))) en_nil))) (en_cons (eq_tup (en_cons eqs (en_cons (eq_tup (en_cons eqs en_nil)) en_nil))) (en_cons (eq_tup (en_cons eqs (en_cons (eq_tup (en_cons (eqv rfl) en_nil)) en_nil))) en_nil))))) fun d hd => ?_
  refine run_ret ((eq_over (eq_add (eqv rfl) (eq_some rfl (eq_lst (en_cons (eq_lst en_nil) (en_cons (eq_lst (en_cons (eq_tup (en_cons eqs (en_cons (eq_tup (en_cons (eqv rfl) (en_cons (eqv rfl) en_nil))) en_nil))) en_nil)) (en_cons (eq_lst (en_cons (eq_tup (en_cons eqs (en_cons (eq_tup (en_cons (eqv rfl) en_nil)) en_nil))) en_nil)) en_nil))))) (one_list hd)) ?_))
  revert d
  revert t
  revert s
  decide +kernel
theorem ok__law_nest_grammar (T : Tb K mg) : Ok Pg w K mg base "_law_nest_grammar" ["_law_cup_here"] 4 spMaker := by
  have O__law_roll := ok__law_roll (Pg := Pg) (w := w) (base := base) T
  have O__law_some := ok__law_some (Pg := Pg) (w := w) (base := base) T
  have O__law_named := ok__law_named (Pg := Pg) (w := w) (base := base) T
  have O__law_over := ok__law_over (Pg := Pg) (w := w) (base := base) T
  refine ok_defG (k := 3) T.d__law_nest_grammar sc__law_nest_grammar (by decide) rfl fun f cdv A outer s H E hr => ⟨_,
    (pss_cons (ps_asg (pe_callD O__law_named (hr.mono (by decide)) (by rfl) (pa_cons (pv 0) (pa_cons pe_int pa_nil))) (pg_unl rfl (pgs_cons (pg_name (i := 1) sc__law_nest_grammar.nd rfl (Or.inl rfl)) (pgs_cons (pg_name (i := 2) sc__law_nest_grammar.nd rfl (Or.inl rfl)) (pgs_cons (pg_name (i := 3) sc__law_nest_grammar.nd rfl (Or.inl rfl)) pgs_nil)))))
      (pss_one (ps_ret (pe_callD O__law_over (hr.mono (by decide)) (by rfl) (pa_cons (pe_ifExp (pt_cmpR (k_eq K hr.units) (pe_callD O__law_roll (hr.mono (by decide)) (by rfl) (pa_cons (pv 0) (pa_cons pe_int pa_nil))) pe_int (nomark _)) (pe_lst (pa_cons (pe_tup (pa_cons pe_str (pa_cons (pe_tup (pa_cons (pv 1) (pa_cons pe_str (pa_cons (pv 2) (pa_cons pe_str pa_nil))))) pa_nil))) (pa_cons (pe_tup (pa_cons pe_str (pa_cons (pe_tup pa_nil) pa_nil))) pa_nil))) (pe_lst (pa_cons (pe_tup (pa_cons pe_str (pa_cons (pe_tup (pa_cons (pv 1) (pa_cons pe_str (pa_cons (pv 2) pa_nil)))) pa_nil))) (pa_cons (pe_tup (pa_cons pe_str (pa_cons (pe_tup (pa_cons (pv 3) pa_nil)) pa_nil))) pa_nil)))) pa_nil))))), fun a ds _ hp => ?_⟩
  subst hp
  refine q_names (is := [1, 2, 3]) (m := 3) rfl (by decide) rfl rfl fun s t hs ht => ?_
  refine run_ret ((eq_over (eq_if (et_roll rfl (by decide) (by decide)) (eq_lst (en_cons (eq_tup (en_cons eqs (en_cons (eq_tup (en_cons (eqv rfl) (en_cons eqs (en_cons (eqv rfl) (en_cons eqs en_nil))))) en_nil))) (en_cons (eq_tup (en_cons eqs (en_cons (eq_tup en_nil) en_nil))) en_nil))) (eq_lst (en_cons (eq_tup (en_cons eqs (en_cons (eq_tup (en_cons (eqv rfl) (en_cons eqs (en_cons (eqv rfl) en_nil)))) en_nil))) (en_cons (eq_tup (en_cons eqs (en_cons (eq_tup (en_cons (eqv rfl) en_nil)) en_nil))) en_nil)))) ?_))
  revert t
  revert s
  decide +kernel
theorem ok__law_two_sided_grammar (T : Tb K mg) : Ok Pg w K mg base "_law_two_sided_grammar" ["_law_cup_here"] 4 spMaker := by
  have O__law_roll := ok__law_roll (Pg := Pg) (w := w) (base := base) T
  have O__law_some := ok__law_some (Pg := Pg) (w := w) (base := base) T
  have O__law_named := ok__law_named (Pg := Pg) (w := w) (base := base) T
  have O__law_over := ok__law_over (Pg := Pg) (w := w) (base := base) T
  refine ok_defG (k := 3) T.d__law_two_sided_grammar sc__law_two_sided_grammar (by decide) rfl fun f cdv A outer s H E hr => ⟨_,
    (pss_cons (ps_asg (pe_callD O__law_named (hr.mono (by decide)) (by rfl) (pa_cons (pv 0) (pa_cons pe_int pa_nil))) (pg_unl rfl (pgs_cons (pg_name (i := 1) sc__law_two_sided_grammar.nd rfl (Or.inl rfl)) (pgs_cons (pg_name (i := 2) sc__law_two_sided_grammar.nd rfl (Or.inl rfl)) (pgs_cons (pg_name (i := 3) sc__law_two_sided_grammar.nd rfl (Or.inl rfl)) pgs_nil)))))
      (pss_cons (ps_set (i := 4) sc__law_two_sided_grammar.nd rfl (Or.inl rfl) (pe_lst (pa_cons (pe_lst (pa_cons (pe_tup (pa_cons pe_str (pa_cons (pe_tup (pa_cons pe_str (pa_cons (pv 2) (pa_cons pe_str pa_nil)))) pa_nil))) (pa_cons (pe_tup (pa_cons pe_str (pa_cons (pe_tup (pa_cons (pv 1) pa_nil)) pa_nil))) pa_nil))) (pa_cons (pe_lst (pa_cons (pe_tup (pa_cons pe_str (pa_cons (pe_tup (pa_cons (pv 2) (pa_cons pe_str pa_nil))) pa_nil))) (pa_cons (pe_tup (pa_cons pe_str (pa_cons (pe_tup (pa_cons (pv 2) (pa_cons pe_str (pa_cons (pv 3) (pa_cons pe_str pa_nil))))) pa_nil))) (pa_cons (pe_tup (pa_cons pe_str (pa_cons (pe_tup (pa_cons (pv 1) pa_nil)) pa_nil))) pa_nil)))) pa_nil))))
      (pss_cons (ps_set (i := 4) sc__law_two_sided_grammar.nd rfl (Or.inl rfl) (pe_op op_addA (pv 4) (pe_lst (pa_cons (pe_lst (pa_cons (pe_tup (pa_cons pe_str (pa_cons (pe_tup (pa_cons pe_str (pa_cons (pv 2) pa_nil))) pa_nil))) (pa_cons (pe_tup (pa_cons pe_str (pa_cons (pe_tup (pa_cons pe_str (pa_cons (pv 2) pa_nil))) pa_nil))) (pa_cons (pe_tup (pa_cons pe_str (pa_cons (pe_tup (pa_cons (pv 1) pa_nil)) pa_nil))) (pa_cons (pe_tup (pa_cons pe_str (pa_cons (pe_tup (pa_cons (pv 1) pa_nil)) pa_nil))) pa_nil))))) (pa_cons (pe_lst (pa_cons (pe_tup (pa_cons pe_str (pa_cons (pe_tup (pa_cons pe_str (pa_cons pe_str pa_nil))) pa_nil))) (pa_cons (pe_tup (pa_cons pe_str (pa_cons (pe_tup (pa_cons (pv 1) pa_nil)) pa_nil))) (pa_cons (pe_tup (pa_cons pe_str (pa_cons (pe_tup pa_nil) pa_nil))) pa_nil)))) pa_nil)))))
      (pss_one (ps_ret (pe_callD O__law_over (hr.mono (by decide)) (by rfl) (pa_cons (pe_callD O__law_some (hr.mono (by decide)) (by rfl) (pa_cons (pv 0) (pa_cons (pe_op op_addA (pv 4) (pe_lst (pa_cons (pe_lst (pa_cons (pe_tup (pa_cons pe_str (pa_cons (pe_tup (pa_cons pe_str (pa_cons (pv 2) (pa_cons pe_str pa_nil)))) pa_nil))) (pa_cons (pe_tup (pa_cons pe_str (pa_cons (pe_tup (pa_cons (pv 3) (pa_cons pe_str pa_nil))) pa_nil))) (pa_cons (pe_tup (pa_cons pe_str (pa_cons (pe_tup (pa_cons (pv 1) pa_nil)) pa_nil))) pa_nil)))) pa_nil))) pa_nil))) pa_nil))))))), fun a ds _ hp => ?_⟩
  subst hp
  refine q_names (is := [1, 2, 3]) (m := 3) rfl (by decide) rfl rfl fun s t hs ht => ?_
  refine q_set1 ((eq_lst (en_cons (eq_lst (en_cons (eq_tup (en_cons eqs (en_cons (eq_tup (en_cons eqs (en_cons (eqv rfl) (en_cons eqs en_nil)))) en_nil))) (en_cons (eq_tup (en_cons eqs (en_cons (eq_tup (en_cons (eqv rfl) en_nil)) en_nil))) en_nil))) (en_cons (eq_lst (en_cons (eq_tup (en_cons eqs (en_cons (eq_tup (en_cons (eqv rfl) (en_cons eqs en_nil))) en_nil))) (en_cons (eq_tup (en_cons eqs (en_cons (eq_tup (en_cons (eqv rfl) (en_cons eqs (en_cons (eqv rfl) (en_cons eqs en_nil))))) en_nil))) (en_cons (eq_tup (en_cons eqs (en_cons (eq_tup (en_cons (eqv rfl) en_nil)) en_nil))) en_nil)))) en_nil)))) ?_
  refine q_set1 ((eq_add (eqv rfl) (eq_lst (en_cons (eq_lst (en_cons (eq_tup (en_cons eqs (en_cons (eq_tup (en_cons eqs (en_cons (eqv rfl) en_nil))) en_nil))) (en_cons (eq_tup (en_cons eqs (en_cons (eq_tup (en_cons eqs (en_cons (eqv rfl) en_nil))) en_nil))) (en_cons (eq_tup (en_cons eqs (en_cons (eq_tup (en_cons (eqv rfl) en_nil)) en_nil))) (en_cons (eq_tup (en_cons eqs (en_cons (eq_tup (en_cons (eqv rfl) en_nil)) en_nil))) en_nil))))) (en_cons (eq_lst (en_cons (eq_tup (en_cons eqs (en_cons (eq_tup (en_cons eqs (en_cons eqs en_nil))) en_nil))) (en_cons (eq_tup (en_cons eqs (en_cons (eq_tup (en_cons (eqv rfl) en_nil)) en_nil))) (en_cons (eq_tup (en_cons eqs (en_cons (eq_tup en_nil) en_nil))) en_nil)))) en_nil))))) ?_
  refine run_ret ((eq_over (eq_some rfl (eq_add (eqv rfl) (eq_lst (en_cons (eq_lst (en_cons (eq_tup (en_cons eqs (en_cons (eq_tup (en_cons eqs (en_cons (eqv rfl) (en_cons eqs en_nil)))) en_nil))) (en_cons (eq_tup (en_cons eqs (en_cons (eq_tup (en_cons (eqv rfl) (en_cons eqs en_nil))) en_nil))) (en_cons (eq_tup (en_cons eqs (en_cons (eq_tup (en_cons (eqv rfl) en_nil)) en_nil))) en_nil)))) en_nil)))) ?_))
  revert t
  revert s
  decide +kernel
theorem ok__law_near_grammar (T : Tb K mg) : Ok Pg w K mg base "_law_near_grammar" ["_law_cup_here"] 4 spMaker := by
  have O__law_roll := ok__law_roll (Pg := Pg) (w := w) (base := base) T
  have O__law_some := ok__law_some (Pg := Pg) (w := w) (base := base) T
  have O__law_named := ok__law_named (Pg := Pg) (w := w) (base := base) T
  have O__law_over := ok__law_over (Pg := Pg) (w := w) (base := base) T
  refine ok_defG (k := 3) T.d__law_near_grammar sc__law_near_grammar (by decide) rfl fun f cdv A outer s H E hr => ⟨_,
    (pss_cons (ps_asg (pe_callD O__law_named (hr.mono (by decide)) (by rfl) (pa_cons (pv 0) (pa_cons pe_int pa_nil))) (pg_unl rfl (pgs_cons (pg_name (i := 1) sc__law_near_grammar.nd rfl (Or.inl rfl)) (pgs_cons (pg_name (i := 2) sc__law_near_grammar.nd rfl (Or.inl rfl)) (pgs_cons (pg_name (i := 3) sc__law_near_grammar.nd rfl (Or.inl rfl)) (pgs_cons (pg_name (i := 4) sc__law_near_grammar.nd rfl (Or.inl rfl)) pgs_nil))))))
      (pss_one (ps_ret (pe_callD O__law_over (hr.mono (by decide)) (by rfl) (pa_cons (pe_lst (pa_cons (pe_tup (pa_cons pe_str (pa_cons (pe_tup (pa_cons (pv 1) (pa_cons pe_str (pa_cons (pv 2) pa_nil)))) pa_nil))) (pa_cons (pe_tup (pa_cons pe_str (pa_cons (pe_tup (pa_cons pe_str (pa_cons (pv 3) (pa_cons pe_str pa_nil)))) pa_nil))) (pa_cons (pe_tup (pa_cons pe_str (pa_cons (pe_tup (pa_cons (pv 1) (pa_cons (pv 4) (pa_cons (pv 3) pa_nil)))) pa_nil))) (pa_cons (pe_tup (pa_cons pe_str (pa_cons (pe_tup (pa_cons (pv 4) pa_nil)) pa_nil))) pa_nil))))) pa_nil))))), fun a ds _ hp => ?_⟩
  subst hp
  refine q_names (is := [1, 2, 3, 4]) (m := 4) rfl (by decide) rfl rfl fun s t hs ht => ?_
  refine run_ret ((eq_over (eq_lst (en_cons (eq_tup (en_cons eqs (en_cons (eq_tup (en_cons (eqv rfl) (en_cons eqs (en_cons (eqv rfl) en_nil)))) en_nil))) (en_cons (eq_tup (en_cons eqs (en_cons (eq_tup (en_cons eqs (en_cons (eqv rfl) (en_cons eqs en_nil)))) en_nil))) (en_cons (eq_tup (en_cons eqs (en_cons (eq_tup (en_cons (eqv rfl) (en_cons (eqv rfl) (en_cons (eqv rfl) en_nil)))) en_nil))) (en_cons (eq_tup (en_cons eqs (en_cons (eq_tup (en_cons (eqv rfl) en_nil)) en_nil))) en_nil))))) ?_))
  revert t
  revert s
  decide +kernel
theorem ok__law_far_grammar (T : Tb K mg) : Ok Pg w K mg base "_law_far_grammar" ["_law_cup_here"] 4 spMaker := by
  have O__law_roll := ok__law_roll (Pg := Pg) (w := w) (base := base) T
  have O__law_some := ok__law_some (Pg := Pg) (w := w) (base := base) T
  have O__law_named := ok__law_named (Pg := Pg) (w := w) (base := base) T
  have O__law_over := ok__law_over (Pg := Pg) (w := w) (base := base) T
  refine ok_defG (k := 3) T.d__law_far_grammar sc__law_far_grammar (by decide) rfl fun f cdv A outer s H E hr => ⟨_,
    (pss_cons (ps_asg (pe_callD O__law_named (hr.mono (by decide)) (by rfl) (pa_cons (pv 0) (pa_cons pe_int pa_nil))) (pg_unl rfl (pgs_cons (pg_name (i := 1) sc__law_far_grammar.nd rfl (Or.inl rfl)) (pgs_cons (pg_name (i := 2) sc__law_far_grammar.nd rfl (Or.inl rfl)) (pgs_cons (pg_name (i := 3) sc__law_far_grammar.nd rfl (Or.inl rfl)) (pgs_cons (pg_name (i := 4) sc__law_far_grammar.nd rfl (Or.inl rfl)) (pgs_cons (pg_name (i := 5) sc__law_far_grammar.nd rfl (Or.inl rfl)) pgs_nil)))))))
      (pss_cons (ps_set (i := 6) sc__law_far_grammar.nd rfl (Or.inl rfl) (pe_lst (pa_cons (pe_tup (pa_cons pe_str (pa_cons (pe_tup (pa_cons (pv 1) (pa_cons pe_str pa_nil))) pa_nil))) (pa_cons (pe_tup (pa_cons pe_str (pa_cons (pe_tup (pa_cons (pv 2) (pa_cons pe_str pa_nil))) pa_nil))) (pa_cons (pe_tup (pa_cons pe_str (pa_cons (pe_tup (pa_cons pe_str (pa_cons (pv 4) pa_nil))) pa_nil))) (pa_cons (pe_tup (pa_cons pe_str (pa_cons (pe_tup (pa_cons pe_str (pa_cons (pv 5) (pa_cons (pv 5) pa_nil)))) pa_nil))) (pa_cons (pe_tup (pa_cons pe_str (pa_cons (pe_tup (pa_cons pe_str (pa_cons (pv 4) pa_nil))) pa_nil))) (pa_cons (pe_tup (pa_cons pe_str (pa_cons (pe_tup (pa_cons pe_str (pa_cons (pv 5) (pa_cons (pv 5) pa_nil)))) pa_nil))) pa_nil))))))))
      (pss_one (ps_ret (pe_callD O__law_over (hr.mono (by decide)) (by rfl) (pa_cons (pe_op op_addA (pv 6) (pe_lst (pa_cons (pe_tup (pa_cons pe_str (pa_cons (pe_tup (pa_cons (pv 3) pa_nil)) pa_nil))) (pa_cons (pe_tup (pa_cons pe_str (pa_cons (pe_tup (pa_cons (pv 3) pa_nil)) pa_nil))) pa_nil)))) pa_nil)))))), fun a ds _ hp => ?_⟩
  subst hp
  refine q_names (is := [1, 2, 3, 4, 5]) (m := 5) rfl (by decide) rfl rfl fun s t hs ht => ?_
  refine q_set1 ((eq_lst (en_cons (eq_tup (en_cons eqs (en_cons (eq_tup (en_cons (eqv rfl) (en_cons eqs en_nil))) en_nil))) (en_cons (eq_tup (en_cons eqs (en_cons (eq_tup (en_cons (eqv rfl) (en_cons eqs en_nil))) en_nil))) (en_cons (eq_tup (en_cons eqs (en_cons (eq_tup (en_cons eqs (en_cons (eqv rfl) en_nil))) en_nil))) (en_cons (eq_tup (en_cons eqs (en_cons (eq_tup (en_cons eqs (en_cons (eqv rfl) (en_cons (eqv rfl) en_nil)))) en_nil))) (en_cons (eq_tup (en_cons eqs (en_cons (eq_tup (en_cons eqs (en_cons (eqv rfl) en_nil))) en_nil))) (en_cons (eq_tup (en_cons eqs (en_cons (eq_tup (en_cons eqs (en_cons (eqv rfl) (en_cons (eqv rfl) en_nil)))) en_nil))) en_nil)))))))) ?_
  refine run_ret ((eq_over (eq_add (eqv rfl) (eq_lst (en_cons (eq_tup (en_cons eqs (en_cons (eq_tup (en_cons (eqv rfl) en_nil)) en_nil))) (en_cons (eq_tup (en_cons eqs (en_cons (eq_tup (en_cons (eqv rfl) en_nil)) en_nil))) en_nil)))) ?_))
  revert t
  revert s
  decide +kernel
theorem ok__law_odd_grammar (T : Tb K mg) : Ok Pg w K mg base "_law_odd_grammar" ["_law_cup_here"] 4 spMaker := by
  have O__law_roll := ok__law_roll (Pg := Pg) (w := w) (base := base) T
  have O__law_some := ok__law_some (Pg := Pg) (w := w) (base := base) T
  have O__law_named := ok__law_named (Pg := Pg) (w := w) (base := base) T
  have O__law_over := ok__law_over (Pg := Pg) (w := w) (base := base) T
  refine ok_defG (k := 3) T.d__law_odd_grammar sc__law_odd_grammar (by decide) rfl fun f cdv A outer s H E hr => ⟨_,
    (pss_cons (ps_asg (pe_callD O__law_named (hr.mono (by decide)) (by rfl) (pa_cons (pv 0) (pa_cons pe_int pa_nil))) (pg_unl rfl (pgs_cons (pg_name (i := 1) sc__law_odd_grammar.nd rfl (Or.inl rfl)) (pgs_cons (pg_name (i := 2) sc__law_odd_grammar.nd rfl (Or.inl rfl)) pgs_nil))))
      (pss_cons (ps_set (i := 3) sc__law_odd_grammar.nd rfl (Or.inl rfl) (pe_lst (pa_cons (pe_lst (pa_cons (pe_tup (pa_cons pe_str (pa_cons (pe_tup (pa_cons pe_str pa_nil)) pa_nil))) (pa_cons (pe_tup (pa_cons pe_str (pa_cons (pe_tup (pa_cons (pv 1) pa_nil)) pa_nil))) pa_nil))) (pa_cons (pe_lst (pa_cons (pe_tup (pa_cons pe_str (pa_cons (pe_tup (pa_cons pe_str (pa_cons pe_str (pa_cons (pv 2) pa_nil)))) pa_nil))) (pa_cons (pe_tup (pa_cons pe_str (pa_cons (pe_tup pa_nil) pa_nil))) (pa_cons (pe_tup (pa_cons pe_str (pa_cons (pe_tup (pa_cons (pv 1) pa_nil)) pa_nil))) (pa_cons (pe_tup (pa_cons pe_str (pa_cons (pe_tup pa_nil) pa_nil))) pa_nil))))) (pa_cons (pe_lst (pa_cons (pe_tup (pa_cons pe_str (pa_cons (pe_tup (pa_cons pe_str (pa_cons (pv 2) pa_nil))) pa_nil))) (pa_cons (pe_tup (pa_cons pe_str (pa_cons (pe_tup (pa_cons pe_str (pa_cons (pv 1) pa_nil))) pa_nil))) (pa_cons (pe_tup (pa_cons pe_str (pa_cons (pe_tup pa_nil) pa_nil))) pa_nil)))) pa_nil)))))
      (pss_one (ps_ret (pe_callD O__law_over (hr.mono (by decide)) (by rfl) (pa_cons (pe_callD O__law_some (hr.mono (by decide)) (by rfl) (pa_cons (pv 0) (pa_cons (pe_op op_addA (pv 3) (pe_lst (pa_cons (pe_lst (pa_cons (pe_tup (pa_cons pe_str (pa_cons (pe_tup (pa_cons (pv 1) (pa_cons pe_str (pa_cons pe_str pa_nil)))) pa_nil))) (pa_cons (pe_tup (pa_cons pe_str (pa_cons (pe_tup (pa_cons (pv 2) pa_nil)) pa_nil))) (pa_cons (pe_tup (pa_cons pe_str (pa_cons (pe_tup (pa_cons pe_str (pa_cons (pv 1) pa_nil))) pa_nil))) pa_nil)))) pa_nil))) pa_nil))) pa_nil)))))), fun a ds _ hp => ?_⟩
  subst hp
  refine q_names (is := [1, 2]) (m := 2) rfl (by decide) rfl rfl fun s t hs ht => ?_
  refine q_set1 ((eq_lst (en_cons (eq_lst (en_cons (eq_tup (en_cons eqs (en_cons (eq_tup (en_cons eqs en_nil)) en_nil))) (en_cons (eq_tup (en_cons eqs (en_cons (eq_tup (en_cons (eqv rfl) en_nil)) en_nil))) en_nil))) (en_cons (eq_lst (en_cons (eq_tup (en_cons eqs (en_cons (eq_tup (en_cons eqs (en_cons eqs (en_cons (eqv rfl) en_nil)))) en_nil))) (en_cons (eq_tup (en_cons eqs (en_cons (eq_tup en_nil) en_nil))) (en_cons (eq_tup (en_cons eqs (en_cons (eq_tup (en_cons (eqv rfl) en_nil)) en_nil))) (en_cons (eq_tup (en_cons eqs (en_cons (eq_tup en_nil) en_nil))) en_nil))))) (en_cons (eq_lst (en_cons (eq_tup (en_cons eqs (en_cons (eq_tup (en_cons eqs (en_cons (eqv rfl) en_nil))) en_nil))) (en_cons (eq_tup (en_cons eqs (en_cons (eq_tup (en_cons eqs (en_cons (eqv rfl) en_nil))) en_nil))) (en_cons (eq_tup (en_cons eqs (en_cons (eq_tup en_nil) en_nil))) en_nil)))) en_nil))))) ?_
  refine run_ret ((eq_over (eq_some rfl (eq_add (eqv rfl) (eq_lst (en_cons (eq_lst (en_cons (eq_tup (en_cons eqs (en_cons (eq_tup (en_cons (eqv rfl) (en_cons eqs (en_cons eqs en_nil)))) en_nil))) (en_cons (eq_tup (en_cons eqs (en_cons (eq_tup (en_cons (eqv rfl) en_nil)) en_nil))) (en_cons (eq_tup (en_cons eqs (en_cons (eq_tup (en_cons eqs (en_cons (eqv rfl) en_nil))) en_nil))) en_nil)))) en_nil)))) ?_))
  revert t
  revert s
  decide +kernel
end
end Sh

set_option maxHeartbeats 4000000
/-! Layer a: the makers mirror and level. -/
namespace Sh
open PySem PySem.Spec PyProof.Rows L2
section
variable {c : Option Addr} {δ : List Ds} {K : PySem.W.Frag} {te ta tb : TE} {tt : TT} {tl : TA} {E : XK} {i : Nat}
theorem EvQ.is {S S2 : List PyData} (h : EvQ c te δ S) (e : S = S2 := by kernel_rfl) : EvQ c te δ S2 := e ▸ h
/-- a comprehension over one of several rows -/
theorem ev_lcNP {wi : TI} {j : Nat} {B : List PyData → Prop} (W : Wk c wi δ fun n item => ∃ ds, B ds ∧ IsItems ds n item) (f : PyData → PyData) (hl : ∀ ds, B ds → ds.length ≤ 50000) (hf : ∀ ds, B ds → ∀ x ∈ ds, EvD c te ((wipeD δ [j]).set j (.dat x)) (f x)) :
    Ev c (tLc wi (gName j) tYes te [j]) δ fun d => ∃ ds, B ds ∧ d = .list (ds.map f) :=
  ev_lcP W fun n item ⟨ds, hB, hn, hi⟩ => by
    have hl := hl ds hB
    have at_ : ∀ i (h : i < n), item i = ds[i]'(by omega) := fun i h => by
      rw [hi i, getD_of (List.getElem?_eq_getElem (by omega))]
    have mem : ∀ i, i < n → item i ∈ ds := fun i h => by
      rw [at_ i h]
      exact List.getElem_mem _
    have tk : ∀ i, i < n → ds.take (i + 1) = ds.take i ++ [item i] := fun i h => by
      rw [List.take_add_one, List.getElem?_eq_getElem (show i < ds.length by omega), at_ i h] <;> rfl
    refine ⟨Lc.mk (by omega) (fun i acc => acc = (ds.take i).map f) rfl [j] (fun _ h => h) (fun i => (wipeD δ [j]).set j (.dat (item i))) (fun i h => gb_name) (fun i k => k = true) (fun i h => et_yes)
      (fun i d => d = f (item i)) (fun i h hk => hf ds hB _ (mem i h)) (fun i acc d h e1 e2 e3 => ?_) (fun i acc h e1 e2 => (nomatch e2)) fun acc e _ => ⟨ds, hB, ?_⟩⟩
    · show acc ++ [d] = _
      rw [tk i h, List.map_append, ← e1, e3] <;> rfl
    · have e' : acc = (ds.take n).map f := e
      rw [e', hn, List.take_length]
theorem cut_to {l : List PyData} {n : Nat} : cutD l none (some (n : Int)) = l.take n := by
  unfold cutD
  have e1 : HT.sIx l.length 0 none = 0 := by
    unfold HT.sIx
    simp
  have e2 : l.take (HT.sIx l.length l.length (some (n : Int))) = l.take n := by
    rw [HT.sIx_nat]
    rcases Nat.le_total n l.length with h | h
    · rw [Nat.min_eq_left h]
    · rw [Nat.min_eq_right h, List.take_length, List.take_of_length_le h]
  rw [e1, List.drop_zero, Nat.sub_zero, e2]
/-- xs[:b + roll(cup, m)] -/
theorem ev_cutR {a : Addr} {x : PyData} {xs : List PyData} {b m : Nat} (h : EvD (some a) te δ x) (hx : x = .list xs ∨ x = .tuple xs) (e : δ[i]? = some (.adr a)) (hm : 0 < m) (hm2 : m ≤ 1000) :
    Ev (some a) (tSl (rSlAny K) te tNoPart (tPart (tOp rAddA (tC (.int (b : Nat))) (tCall spRoll [] E (tCons (tVar i) (tCons (tC (.int (m : Nat))) tNil)))))) δ fun d => ∃ n, b ≤ n ∧ n < b + m ∧ ((x = .list xs → d = .list (xs.take n)) ∧ (x = .tuple xs → d = .tuple (xs.take n))) :=
  ev_slice h hx eo_none (eo_some (P := fun k => ∃ n : Nat, k = n ∧ b ≤ n ∧ n < b + m) (ev_add2 (P := fun z => z = (b : Int)) (R := fun k => 0 ≤ k ∧ k < (m : Int)) ev_i (Ev.imp (ev_roll e (ea_cons ev_int ea_nil) (by omega) (by omega)) fun d ⟨k, ed, h0, h1⟩ => ⟨k, ed, h0, h1⟩) fun u v hu hv => ⟨(u + v).toNat, by omega, by omega, by omega⟩))
    fun lo hi elo ⟨k, ek, n, en, h1, h2⟩ => by
      subst elo
      subst ek
      subst en
      rw [cut_to]
      exact ⟨fun hl => ⟨n, h1, h2, fun _ => rfl, fun z => by rw [hl] at z; cases z⟩, fun ht => ⟨n, h1, h2, (fun z => by rw [ht] at z; cases z), fun _ => rfl⟩⟩
end
section
variable {Pg : Program} {w : World} {K : PySem.W.Frag} {mg : Str → Option Value} {base : Heap}
theorem ok__law_mirror_grammar (T : Tb K mg) : Ok Pg w K mg base "_law_mirror_grammar" ["_law_cup_here"] 4 spMaker := by
  have O__law_roll := ok__law_roll (Pg := Pg) (w := w) (base := base) T
  have O__law_named := ok__law_named (Pg := Pg) (w := w) (base := base) T
  have O__law_over := ok__law_over (Pg := Pg) (w := w) (base := base) T
  refine ok_defG (k := 3) T.d__law_mirror_grammar sc__law_mirror_grammar (by decide) rfl fun f cdv A outer s H E hr => ⟨_,
    (pss_cons (ps_asg (pe_callD O__law_named (hr.mono (by decide)) (by rfl) (pa_cons (pv 0) (pa_cons pe_int pa_nil))) (pg_unl rfl (pgs_cons (pg_name (i := 1) sc__law_mirror_grammar.nd rfl (Or.inl rfl)) (pgs_cons (pg_name (i := 2) sc__law_mirror_grammar.nd rfl (Or.inl rfl)) (pgs_cons (pg_name (i := 3) sc__law_mirror_grammar.nd rfl (Or.inl rfl)) pgs_nil)))))
      (pss_cons (ps_setLc (i := 4) (own := [("_law_one", 5)]) (g := gName 5) rfl sc__law_mirror_grammar.nd rfl rfl (sw_true rfl rfl rfl (by decide +kernel)) (k_seq K (pe_slice (k_sl K) (pe_tup (pa_cons (pv 1) (pa_cons (pv 2) pa_nil))) po_none (po_some (pe_op op_addA pe_int (pe_callD O__law_roll (hr.mono (by decide)) (by rfl) (pa_cons (pv 0) (pa_cons pe_int pa_nil))))))) (blkOk_by (N := N__law_mirror_grammar) (sc := defScope s__law_mirror_grammar) (own := [("_law_one", 5)]) (by decide +kernel)) (fun _ _ _ _ _ => (pg_name (i := 5) sc__law_mirror_grammar.nd rfl (Or.inl rfl))) (fun _ _ _ _ _ => pts_nil) (fun _ _ _ _ _ => (pe_tup (pa_cons pe_str (pa_cons (pe_tup (pa_cons (pv 5) (pa_cons pe_str (pa_cons (pv 5) pa_nil)))) pa_nil)))))
      (pss_one (ps_ret (pe_callD O__law_over (hr.mono (by decide)) (by rfl) (pa_cons (pe_op op_addA (pv 4) (pe_lst (pa_cons (pe_tup (pa_cons pe_str (pa_cons (pe_ifExp (pt_cmpR (k_eq K hr.units) (pe_callD O__law_roll (hr.mono (by decide)) (by rfl) (pa_cons (pv 0) (pa_cons pe_int pa_nil))) pe_int (nomark _)) (pe_tup (pa_cons (pv 3) pa_nil)) (pe_tup pa_nil)) pa_nil))) pa_nil))) pa_nil)))))), fun a ds _ hp => ?_⟩
  subst hp
  refine q_names (is := [1, 2, 3]) (m := 3) rfl (by decide) rfl rfl fun s t hs ht => ?_
  refine q_set (A := fun d => d ∈ [PyData.list [.tuple [.str "S", .tuple [.str (nmAt s t 0), .str "S", .str (nmAt s t 0)]]], .list [.tuple [.str "S", .tuple [.str (nmAt s t 0), .str "S", .str (nmAt s t 0)]], .tuple [.str "S", .tuple [.str (nmAt s t 1), .str "S", .str (nmAt s t 1)]]]])
    (Ev.imp (ev_lcNP (B := fun ds => ds = [.str (nmAt s t 0)] ∨ ds = [.str (nmAt s t 0), .str (nmAt s t 1)]) (wk_tupP (Ev.imp (ev_cutR (b := 1) (m := 2) (ev_tup (ea_cons (ev_var rfl) (ea_cons (ev_var rfl) ea_nil)) (by simp)) (.inr rfl) rfl (by decide) (by decide)) fun d hc => ?_)) (fun d => .tuple [.str "S", .tuple [d, .str "S", d]]) (fun ds h => by rcases h with e | e <;> rw [e] <;> simp) fun ds h x hx => ev_tup (ea_cons ev_str (ea_cons (ev_tup (ea_cons (ev_var rfl) (ea_cons ev_str (ea_cons (ev_var rfl) ea_nil))) (by simp)) ea_nil)) (by simp)) fun d hc => ?_) fun d hd => ?_
  · obtain ⟨n, h1, h2, _, h3⟩ := hc
    have e : n = 1 ∨ n = 2 := by omega
    rcases e with e | e
    · subst e
      exact ⟨_, h3 rfl, .inl rfl⟩
    · subst e
      exact ⟨_, h3 rfl, .inr rfl⟩
  · obtain ⟨ds, h, e⟩ := hc
    rcases h with h | h
    · subst h
      rw [e]
      exact List.mem_cons_self
    · subst h
      rw [e]
      exact List.mem_cons_of_mem _ List.mem_cons_self
  · refine run_ret (eq_over (eq_add (eqv rfl) (eq_lst (en_cons (eq_tup (en_cons eqs (en_cons (eq_if (et_roll rfl (by decide) (by decide)) (eq_tup (en_cons (eqv rfl) en_nil)) (eq_tup en_nil)) en_nil))) en_nil)) (one_list hd)) ?_)
    revert d
    revert t
    revert s
    decide +kernel
end
end Sh

set_option maxHeartbeats 4000000
/-! Layer b: the maker level. -/
namespace Sh
open PySem PySem.Spec PyProof.Rows L2
def optsL (own sign low : Str) : List (List Str) := [[own, sign, low], [low, sign, own], [sign, own]]
def ruleD (l : Str) (r : List Str) : PyData := .tuple [.str l, .tuple (r.map .str)]
def levS (A B : Str) (nm : List Str) : Nat → List PyData
  | 0 => [.list []]
  | i + 1 => (levS A B nm i).flatMap fun r => (optsL (nm.getD i "") ([A, B].getD i "") (nm.getD (i + 1) "")).map fun o => .list (itemsD r ++ [ruleD (nm.getD i "") o, ruleD (nm.getD i "") [nm.getD (i + 1) ""]])
def NMs : List (List Str) := [["S", "T"], ["S", "T", "U"]]
theorem atI_str {l : List Str} {i : Nat} (h : i < l.length) : atI (l.map PyData.str) (i : Int) = some (.str (l.getD i "")) := by
  refine atI_nat' (by omega) ?_
  rw [Int.toNat_natCast, List.getElem?_map, List.getElem?_eq_getElem h, List.getD_eq_getElem?_getD, List.getElem?_eq_getElem h] <;> rfl
theorem levS_list (A B : Str) (nm : List Str) : ∀ i, i ≤ 2 → ∀ r ∈ levS A B nm i, ∃ xs, r = .list xs ∧ xs.length = 2 * i
  | 0, _, r, h => ⟨[], List.mem_singleton.mp h, rfl⟩
  | i + 1, hi, r, h => by
    obtain ⟨q, hq, h⟩ := List.mem_flatMap.mp h
    obtain ⟨o, _, rfl⟩ := List.mem_map.mp h
    obtain ⟨xs, rfl, hl⟩ := levS_list A B nm i (by omega) q hq
    refine ⟨_, rfl, ?_⟩
    show (xs ++ _).length = _
    rw [List.length_append, hl]
    simp
    omega
theorem nm_facts : ∀ nm ∈ NMs, (nm.length = 2 ∨ nm.length = 3) ∧ atI (nm.map PyData.str) (-1) = some (.str (nm.getD (nm.length - 1) "")) := by
  intro nm h
  rcases List.mem_cons.mp h with e | h
  · subst e
    exact ⟨.inl rfl, rfl⟩
  · rw [List.mem_singleton.mp h]
    exact ⟨.inr rfl, rfl⟩
section
variable {Pg : Program} {w : World} {K : PySem.W.Frag} {mg : Str → Option Value} {base : Heap}
theorem ok__law_level_grammar (T : Tb K mg) : Ok Pg w K mg base "_law_level_grammar" ["_law_cup_here"] 4 spMaker := by
  have O__law_roll := ok__law_roll (Pg := Pg) (w := w) (base := base) T
  have O__law_some := ok__law_some (Pg := Pg) (w := w) (base := base) T
  have O__law_named := ok__law_named (Pg := Pg) (w := w) (base := base) T
  have O__law_over := ok__law_over (Pg := Pg) (w := w) (base := base) T
  refine ok_defG (k := 3) T.d__law_level_grammar sc__law_level_grammar (by decide) rfl fun f cdv A outer s H E hr => ⟨_,
    (pss_cons (ps_asg (pe_callD O__law_named (hr.mono (by decide)) (by rfl) (pa_cons (pv 0) (pa_cons pe_int pa_nil))) (pg_unl rfl (pgs_cons (pg_name (i := 1) sc__law_level_grammar.nd rfl (Or.inl rfl)) (pgs_cons (pg_name (i := 2) sc__law_level_grammar.nd rfl (Or.inl rfl)) (pgs_cons (pg_name (i := 3) sc__law_level_grammar.nd rfl (Or.inl rfl)) (pgs_cons (pg_name (i := 4) sc__law_level_grammar.nd rfl (Or.inl rfl)) (pgs_cons (pg_name (i := 5) sc__law_level_grammar.nd rfl (Or.inl rfl)) pgs_nil)))))))
      (pss_cons (ps_par (i := 6) (j := 7) rfl sc__law_level_grammar.nd rfl rfl (by decide) rfl rfl (pa_cons (pe_lst pa_nil) (pa_cons (pe_slice (k_sl K) (pe_lst (pa_cons pe_str (pa_cons pe_str (pa_cons pe_str pa_nil)))) po_none (po_some (pe_op op_addA pe_int (pe_callD O__law_roll (hr.mono (by decide)) (by rfl) (pa_cons (pv 0) (pa_cons pe_int pa_nil)))))) pa_nil)) (by rfl))
      (pss_cons (ps_for PassesOwn.never rfl (pi_range1 (by rfl) T.b_range (pa_cons (pe_op op_sub (pe_callB (k_len K) (by rfl) T.b_len (by decide +kernel) (pa_cons (pv 7) pa_nil)) pe_int) pa_nil)) (pg_name (i := 8) sc__law_level_grammar.nd rfl (Or.inl rfl)) (pss_cons (ps_par3 (i := 9) (j := 10) (l := 11) rfl sc__law_level_grammar.nd rfl rfl rfl (by decide) (by decide) (by decide) rfl rfl rfl (pa_cons (pe_ix (k_ix K) (pv 7) (pv 8) (fun _ _ => rfl)) (pa_cons (pe_ix (k_ix K) (pv 7) (pe_op op_addA (pv 8) pe_int) (fun _ _ => rfl)) (pa_cons (pe_ix (k_ix K) (pe_tup (pa_cons (pv 1) (pa_cons (pv 2) pa_nil))) (pv 8) (fun _ _ => rfl)) pa_nil))) (by rfl))
      (pss_one (ps_set (i := 6) sc__law_level_grammar.nd rfl (Or.inl rfl) (pe_op op_addA (pv 6) (pe_lst (pa_cons (pe_tup (pa_cons (pv 9) (pa_cons (pe_callD O__law_some (hr.mono (by decide)) (by rfl) (pa_cons (pv 0) (pa_cons (pe_lst (pa_cons (pe_tup (pa_cons (pv 9) (pa_cons (pv 11) (pa_cons (pv 10) pa_nil)))) (pa_cons (pe_tup (pa_cons (pv 10) (pa_cons (pv 11) (pa_cons (pv 9) pa_nil)))) (pa_cons (pe_tup (pa_cons (pv 11) (pa_cons (pv 9) pa_nil))) pa_nil)))) pa_nil))) pa_nil))) (pa_cons (pe_tup (pa_cons (pv 9) (pa_cons (pe_tup (pa_cons (pv 10) pa_nil)) pa_nil))) pa_nil))))))))
      (pss_one (ps_ret (pe_callD O__law_over (hr.mono (by decide)) (by rfl) (pa_cons (pe_op op_addA (pv 6) (pe_lst (pa_cons (pe_tup (pa_cons (pe_ix (k_ix K) (pv 7) (pe_un un_neg pe_int) (fun _ _ => rfl)) (pa_cons (pe_tup (pa_cons (pv 3) (pa_cons pe_str (pa_cons (pv 4) pa_nil)))) pa_nil))) (pa_cons (pe_tup (pa_cons (pe_ix (k_ix K) (pv 7) (pe_un un_neg pe_int) (fun _ _ => rfl)) (pa_cons (pe_tup (pa_cons (pv 5) pa_nil)) pa_nil))) pa_nil)))) pa_nil))))))), fun a ds _ hp => ?_⟩
  subst hp
  refine q_names (is := [1, 2, 3, 4, 5]) (m := 5) rfl (by decide) rfl rfl fun s t hs ht => ?_
  refine run_seq (N1 := fun δ => ∃ nm ∈ NMs, ∃ s8 s9 s10 s11, δ = [.adr a, .dat (.str (nmAt s t 0)), .dat (.str (nmAt s t 1)), .dat (.str (nmAt s t 2)), .dat (.str (nmAt s t 3)), .dat (.str (nmAt s t 4)), .dat (.list []), .dat (.list (nm.map .str)), s8, s9, s10, s11])
    (run_parP (A := fun ds => ∃ nm ∈ NMs, ds = [.list [], .list (nm.map .str)]) (ea_consP (A := fun d => d = .list []) (B := fun xs => ∃ nm ∈ NMs, xs = [.list (nm.map .str)]) (ev_lst ea_nil (by simp)) (ea_consP (A := fun d => ∃ nm ∈ NMs, d = .list (nm.map .str)) (Ev.imp (ev_cutR (b := 2) (m := 2) (xs := [.str "S", .str "T", .str "U"]) (ev_lst (ea_cons ev_str (ea_cons ev_str (ea_cons ev_str ea_nil))) (by simp)) (.inl rfl) rfl (by decide) (by decide)) fun d hc => ?_) ea_nil (fun x xs ⟨nm, h, e⟩ e2 => ⟨nm, h, by rw [e, e2]⟩)) fun x xs e ⟨nm, h, e2⟩ => ⟨nm, h, by rw [e, e2]⟩) fun ds ⟨nm, h, e⟩ => ⟨_, _, e, nm, h, _, _, _, _, rfl⟩) fun δ1 hδ => ?_
  · obtain ⟨n, h1, h2, h3, _⟩ := hc
    have e : n = 2 ∨ n = 3 := by omega
    rcases e with e | e
    · subst e
      exact ⟨["S", "T"], List.mem_cons_self, h3 rfl⟩
    · subst e
      exact ⟨["S", "T", "U"], List.mem_cons_of_mem _ List.mem_cons_self, h3 rfl⟩
  obtain ⟨nm, hnm, s8, s9, s10, s11, rfl⟩ := hδ
  obtain ⟨hl, hlast⟩ := nm_facts nm hnm
  have lm : (nm.map PyData.str).length = nm.length := List.length_map ..
  refine run_seq (N1 := fun δ => ∃ r ∈ levS (nmAt s t 0) (nmAt s t 1) nm (nm.length - 1), ∃ s8 s9 s10 s11, δ = [.adr a, .dat (.str (nmAt s t 0)), .dat (.str (nmAt s t 1)), .dat (.str (nmAt s t 2)), .dat (.str (nmAt s t 3)), .dat (.str (nmAt s t 4)), .dat r, .dat (.list (nm.map .str)), s8, s9, s10, s11])
    (run_for (wk_num (n := nm.length - 1) (ea_cons (Ev.is (ev_op (ev_cb (ea_cons (ev_var rfl) ea_nil) rl_lenL) ev_int rd_sub) (by rw [lm]; exact congrArg PyData.int (by omega))) ea_nil) (by omega)) fun n item ⟨hn, hi⟩ => ?_) fun δ1 hδ => ?_
  · rw [numD_len] at hn
    subst hn
    refine ⟨fun i δ => ∃ r ∈ levS (nmAt s t 0) (nmAt s t 1) nm i, ∃ s8 s9 s10 s11, δ = [.adr a, .dat (.str (nmAt s t 0)), .dat (.str (nmAt s t 1)), .dat (.str (nmAt s t 2)), .dat (.str (nmAt s t 3)), .dat (.str (nmAt s t 4)), .dat r, .dat (.list (nm.map .str)), s8, s9, s10, s11], ⟨_, List.mem_cons_self, _, _, _, _, rfl⟩, ?_, fun δ' h => h⟩
    rintro i δi hlt ⟨r, hr, s8, s9, s10, s11, rfl⟩
    have hit : item i = .int (i : Nat) := by
      rw [hi i]
      refine getD_of ?_
      unfold numD
      rw [List.getElem?_map, List.getElem?_range hlt] <;> rfl
    rw [hit]
    refine ⟨_, _, gb_name, ?_⟩
    refine run_seq (N1 := fun δ => δ = [.adr a, .dat (.str (nmAt s t 0)), .dat (.str (nmAt s t 1)), .dat (.str (nmAt s t 2)), .dat (.str (nmAt s t 3)), .dat (.str (nmAt s t 4)), .dat r, .dat (.list (nm.map .str)), .dat (.int (i : Nat)), .dat (.str (nm.getD i "")), .dat (.str (nm.getD (i + 1) "")), .dat (.str ([nmAt s t 0, nmAt s t 1].getD i ""))])
      (run_par3 (ea_cons (ev_op (ev_var rfl) (ev_var rfl) (rd_ixL (atI_str (by omega)))) (ea_cons (ev_op (ev_var rfl) (Ev.is (ev_op (ev_var rfl) ev_int rd_addI) (y := .int ((i + 1 : Nat) : Int)) (congrArg PyData.int (by omega))) (rd_ixL (atI_str (by omega)))) (ea_cons (ev_op (ev_tup (ea_cons (ev_var rfl) (ea_cons (ev_var rfl) ea_nil)) (by simp)) (ev_var rfl) (rd_ixT (atI_str (l := [nmAt s t 0, nmAt s t 1]) (by simp; omega)))) ea_nil))) rfl) fun δ1 e => ?_
    subst e
    obtain ⟨xs, exs, hxs⟩ := levS_list _ _ nm i (by omega) r hr
    subst exs
    refine run_set (A := fun d => ∃ o ∈ optsL (nm.getD i "") ([nmAt s t 0, nmAt s t 1].getD i "") (nm.getD (i + 1) ""), d = .list (xs ++ [ruleD (nm.getD i "") o, ruleD (nm.getD i "") [nm.getD (i + 1) ""]]))
      (ev_opP (A := fun d => d = .list xs) (B := fun d => d ∈ (optsL (nm.getD i "") ([nmAt s t 0, nmAt s t 1].getD i "") (nm.getD (i + 1) "")).map fun o => .list [ruleD (nm.getD i "") o, ruleD (nm.getD i "") [nm.getD (i + 1) ""]]) (ev_var rfl)
        (EvQ.is (eq_lst (en_cons (eq_tup (en_cons (eqv rfl) (en_cons (eq_some rfl (eq_lst (en_cons (eq_tup (en_cons (eqv rfl) (en_cons (eqv rfl) (en_cons (eqv rfl) en_nil)))) (en_cons (eq_tup (en_cons (eqv rfl) (en_cons (eqv rfl) (en_cons (eqv rfl) en_nil)))) (en_cons (eq_tup (en_cons (eqv rfl) (en_cons (eqv rfl) en_nil))) en_nil))))) en_nil))) (en_cons (eq_tup (en_cons (eqv rfl) (en_cons (eq_tup (en_cons (eqv rfl) en_nil)) en_nil))) en_nil)))) fun x y ex hy => ?_) fun d hd => ?_
    · obtain ⟨o, ho, rfl⟩ := List.mem_map.mp hy
      subst ex
      exact fun M H v u t r1 r2 Q q => rd_addL (by simp; omega) M H v u t r1 r2 Q fun z d H' e' r' hd => q z d H' e' r' ⟨o, ho, hd⟩
    · obtain ⟨o, ho, rfl⟩ := hd
      exact ⟨_, List.mem_flatMap.mpr ⟨_, hr, List.mem_map.mpr ⟨o, ho, rfl⟩⟩, _, _, _, _, rfl⟩
  · obtain ⟨r, hr, s8, s9, s10, s11, rfl⟩ := hδ
    refine run_ret (eq_over (eq_add (eqv rfl) (eq_lst (en_cons (eq_tup (en_cons (eq1 (ev_op (ev_var rfl) (ev_un ev_int rd_neg) (rd_ixL hlast))) (en_cons (eq_tup (en_cons (eqv rfl) (en_cons eqs (en_cons (eqv rfl) en_nil)))) en_nil))) (en_cons (eq_tup (en_cons (eq1 (ev_op (ev_var rfl) (ev_un ev_int rd_neg) (rd_ixL hlast))) (en_cons (eq_tup (en_cons (eqv rfl) en_nil)) en_nil))) en_nil))) (by
      obtain ⟨xs, e, hx⟩ := levS_list _ _ nm _ (by omega) r hr
      subst e
      simp [listD]
      omega)) ?_)
    clear hl hlast lm
    revert r
    revert nm
    revert t
    revert s
    decide +kernel
end
end Sh

set_option maxHeartbeats 4000000
/-! Layer c: a known grammar; what a random one needs. -/
namespace Sh
open PySem PySem.Spec PyProof.Rows L2
section
variable {Pg : Program} {w : World} {K : PySem.W.Frag} {mg : Str → Option Value} {base : Heap}
theorem ev_maker {a : Addr} {δ : List Ds} {i : Nat} {E : XK} (e : δ[i]? = some (.adr a)) : Ev (some a) (tCall spMaker [] E (tCons (tVar i) tNil)) δ fun d => ∃ g, d = encG g ∧ Valid g :=
  ev_callG (A := fun ds => ds = []) e ea_nil (fun ds e => ⟨by rw [e] <;> rfl, e⟩) fun ds d _ hd => hd
theorem et_any {c : Option Addr} {tt : TT} {δ : List Ds} {b : Bool} (h : EvB c tt δ b) : EvT c tt δ fun _ => True := EvT.imp h fun _ _ => trivial
theorem ok__law_known_grammar (T : Tb K mg) : Ok Pg w K mg base "_law_known_grammar" ["_law_cup_here"] 5 spMaker := by
  have O__law_roll := ok__law_roll (Pg := Pg) (w := w) (base := base) T
  have O__law_list_grammar := ok__law_list_grammar (Pg := Pg) (w := w) (base := base) T
  have O__law_nest_grammar := ok__law_nest_grammar (Pg := Pg) (w := w) (base := base) T
  have O__law_level_grammar := ok__law_level_grammar (Pg := Pg) (w := w) (base := base) T
  have O__law_two_sided_grammar := ok__law_two_sided_grammar (Pg := Pg) (w := w) (base := base) T
  have O__law_mirror_grammar := ok__law_mirror_grammar (Pg := Pg) (w := w) (base := base) T
  have O__law_near_grammar := ok__law_near_grammar (Pg := Pg) (w := w) (base := base) T
  have O__law_far_grammar := ok__law_far_grammar (Pg := Pg) (w := w) (base := base) T
  have O__law_odd_grammar := ok__law_odd_grammar (Pg := Pg) (w := w) (base := base) T
  refine ok_defG (k := 4) T.d__law_known_grammar sc__law_known_grammar (by decide) rfl fun f cdv A outer s H E hr => ⟨_,
    (pss_cons (ps_set (i := 1) sc__law_known_grammar.nd rfl (Or.inl rfl) (pe_callD O__law_roll (hr.mono (by decide)) (by rfl) (pa_cons (pv 0) (pa_cons pe_int pa_nil))))
      (pss_cons (ps_if (pt_cmpR (k_lt K hr.units0) (pv 1) pe_int (nomark _)) (pss_one (ps_ret (pe_ifExp (pt_cmpR (k_eq K hr.units) (pv 1) pe_int (nomark _)) (pe_callD O__law_list_grammar (hr.mono (by decide)) (by rfl) (pa_cons (pv 0) pa_nil)) (pe_ifExp (pt_cmpR (k_eq K hr.units) (pv 1) pe_int (nomark _)) (pe_callD O__law_nest_grammar (hr.mono (by decide)) (by rfl) (pa_cons (pv 0) pa_nil)) (pe_callD O__law_level_grammar (hr.mono (by decide)) (by rfl) (pa_cons (pv 0) pa_nil)))))) pss_nil)
      (pss_cons (ps_if (pt_cmpR (k_lt K hr.units0) (pv 1) pe_int (nomark _)) (pss_one (ps_ret (pe_ifExp (pt_cmpR (k_eq K hr.units) (pv 1) pe_int (nomark _)) (pe_callD O__law_two_sided_grammar (hr.mono (by decide)) (by rfl) (pa_cons (pv 0) pa_nil)) (pe_callD O__law_mirror_grammar (hr.mono (by decide)) (by rfl) (pa_cons (pv 0) pa_nil))))) pss_nil)
      (pss_one (ps_ret (pe_ifExp (pt_cmpR (k_eq K hr.units) (pv 1) pe_int (nomark _)) (pe_callD O__law_near_grammar (hr.mono (by decide)) (by rfl) (pa_cons (pv 0) pa_nil)) (pe_ifExp (pt_cmpR (k_eq K hr.units) (pv 1) pe_int (nomark _)) (pe_callD O__law_far_grammar (hr.mono (by decide)) (by rfl) (pa_cons (pv 0) pa_nil)) (pe_callD O__law_odd_grammar (hr.mono (by decide)) (by rfl) (pa_cons (pv 0) pa_nil))))))))), fun a ds _ hp => ?_⟩
  subst hp
  refine q_set (ev_roll rfl (ea_cons ev_int ea_nil) (by decide) (by decide)) fun d ⟨k, e, _⟩ => ?_
  subst e
  refine q_if (B := fun _ => True) (et_any (et_t (ev_op (ev_var rfl) ev_int rd_ltI))) (fun _ => run_ret (ev_ifP (B := fun _ => True) (et_any (et_t (ev_op (ev_var rfl) ev_int (rd_eq rfl rfl)))) (fun _ => ev_maker rfl) fun _ => ev_ifP (B := fun _ => True) (et_any (et_t (ev_op (ev_var rfl) ev_int (rd_eq rfl rfl)))) (fun _ => ev_maker rfl) fun _ => ev_maker rfl)) fun _ => ?_
  refine q_if (B := fun _ => True) (et_any (et_t (ev_op (ev_var rfl) ev_int rd_ltI))) (fun _ => run_ret (ev_ifP (B := fun _ => True) (et_any (et_t (ev_op (ev_var rfl) ev_int (rd_eq rfl rfl)))) (fun _ => ev_maker rfl) fun _ => ev_maker rfl)) fun _ => ?_
  exact run_ret (ev_ifP (B := fun _ => True) (et_any (et_t (ev_op (ev_var rfl) ev_int (rd_eq rfl rfl)))) (fun _ => ev_maker rfl) fun _ => ev_ifP (B := fun _ => True) (et_any (et_t (ev_op (ev_var rfl) ev_int (rd_eq rfl rfl)))) (fun _ => ev_maker rfl) fun _ => ev_maker rfl)
end
section
variable {c : Option Addr} {δ : List Ds} {K : PySem.W.Frag} {te ta tb : TE} {tt : TT} {tl : TA} {E : XK} {i : Nat}
open PySem.W (EachIs)
/-- a comprehension whose elements are told one by one -/
theorem ev_lcE {wi : TI} {j B : Nat} {Itm : PyData → Prop} (hB : B ≤ 50000) (W : Wk c wi δ fun n item => n ≤ B ∧ ∀ i, i < n → Itm (item i)) (R : PyData → Prop) (hf : ∀ x, Itm x → Ev c te ((wipeD δ [j]).set j (.dat x)) R) :
    Ev c (tLc wi (gName j) tYes te [j]) δ fun d => ∃ ds, d = .list ds ∧ ds.length ≤ B ∧ ∀ x ∈ ds, R x :=
  ev_lcP W fun n item ⟨hn, hi⟩ => ⟨Lc.mk (by omega) (fun i acc => ∀ x ∈ acc, R x) (fun x h => by cases h) [j] (fun _ h => h) (fun i => (wipeD δ [j]).set j (.dat (item i))) (fun i h => gb_name) (fun i k => k = true) (fun i h => et_yes)
      (fun i d => R d) (fun i h hk => hf _ (hi i h)) (fun i acc d h e1 e2 e3 x hx => by
        rcases List.mem_append.mp hx with z | z
        · exact e1 x z
        · rw [List.mem_singleton.mp z]
          exact e3) (fun i acc h e1 e2 => (nomatch e2)) fun acc e hl => ⟨acc, rfl, by omega, e⟩⟩
/-- .. each beside its item -/
theorem ev_lcZ {wi : TI} {j : Nat} {ds : List PyData} (W : Wk c wi δ (IsItems ds)) (R : PyData → PyData → Prop) (hl : ds.length ≤ 50000) (hf : ∀ x ∈ ds, Ev c te ((wipeD δ [j]).set j (.dat x)) (R x)) :
    Ev c (tLc wi (gName j) tYes te [j]) δ fun d => ∃ es, d = .list es ∧ EachIs R ds es :=
  ev_lcP W fun n item ⟨hn, hi⟩ => by
    have at_ : ∀ i (h : i < n), item i = ds[i]'(by omega) := fun i h => by
      rw [hi i, getD_of (List.getElem?_eq_getElem (by omega))]
    have mem : ∀ i, i < n → item i ∈ ds := fun i h => by
      rw [at_ i h]
      exact List.getElem_mem _
    have tk : ∀ i, i < n → ds.take (i + 1) = ds.take i ++ [item i] := fun i h => by
      rw [List.take_add_one, List.getElem?_eq_getElem (show i < ds.length by omega), at_ i h] <;> rfl
    refine ⟨Lc.mk (by omega) (fun i acc => EachIs R (ds.take i) acc) .nil [j] (fun _ h => h) (fun i => (wipeD δ [j]).set j (.dat (item i))) (fun i h => gb_name) (fun i k => k = true) (fun i h => et_yes)
      (fun i d => R (item i) d) (fun i h hk => hf _ (mem i h)) (fun i acc d h e1 e2 e3 => ?_) (fun i acc h e1 e2 => (nomatch e2)) fun acc e _ => ⟨acc, rfl, ?_⟩⟩
    · show EachIs R (ds.take (i + 1)) (acc ++ [d])
      rw [tk i h]
      exact PySem.W.each_snoc e3 e1
    · have e' : EachIs R (ds.take n) acc := e
      rwa [hn, List.take_length] at e'
theorem strs_of {ds : List PyData} {l : List Str} (h : ∀ x ∈ ds, x ∈ l.map PyData.str) : ∃ ys : List Str, ds = ys.map .str ∧ ∀ y ∈ ys, y ∈ l :=
  pick_all (f := PyData.str) (S := l) ds fun d hd => by
    obtain ⟨y, h1, h2⟩ := List.mem_map.mp (h d hd)
    exact ⟨y, h1, h2⟩
theorem eqvAll_strs : ∀ l l' : List Str, PyData.eqvAll (l.map .str) (l'.map .str) = decide (l = l')
  | [], [] => by simp [PyData.eqvAll]
  | [], _ :: _ => by simp [PyData.eqvAll]
  | _ :: _, [] => by simp [PyData.eqvAll]
  | x :: l, y :: l' => by
    rw [List.map_cons, List.map_cons, PyData.eqvAll, eqvAll_strs l l']
    by_cases h1 : x = y <;> by_cases h2 : l = l' <;> simp [PyData.eqv, h1, h2]
theorem eqv_rule (r s : Rule) : PyData.eqv (encR r) (encR s) = decide (r = s) := by
  show PyData.eqv (.tuple [.str r.1, .tuple (r.2.map .str)]) (.tuple [.str s.1, .tuple (s.2.map .str)]) = _
  have e : PyData.eqv (.tuple (r.2.map PyData.str)) (.tuple (s.2.map .str)) = PyData.eqvAll (r.2.map .str) (s.2.map .str) := by simp [PyData.eqv]
  rw [PyData.eqv, PyData.eqvAll, PyData.eqvAll, e, eqvAll_strs]
  by_cases h1 : r.1 = s.1 <;> by_cases h2 : r.2 = s.2
  · have : r = s := Prod.ext h1 h2
    simp [PyData.eqv, PyData.eqvAll, this]
  · have : ¬ r = s := fun z => h2 (by rw [z])
    simp [h2, this]
  · have : ¬ r = s := fun z => h1 (by rw [z])
    simp [PyData.eqv, h1, this]
  · have : ¬ r = s := fun z => h1 (by rw [z])
    simp [h2, this]
theorem any_rule (l : List Rule) (q : Rule) : ((l.map encR).any fun z => PyData.eqv z (encR q)) = decide (q ∈ l) := by
  rw [List.any_map, Bool.eq_iff_iff, List.any_eq_true, decide_eq_true_eq]
  constructor
  · rintro ⟨p, hp, e⟩
    have e' : PyData.eqv (encR p) (encR q) = true := e
    rw [eqv_rule, decide_eq_true_eq] at e'
    rw [← e']
    exact hp
  · intro h
    exact ⟨q, h, by show PyData.eqv (encR q) (encR q) = true; rw [eqv_rule]; simp⟩
theorem lay_rule {r : Rule} (h : ruleB r = true) : PyData.canLay0 (encR r) = true := by
  obtain ⟨h1, h2, h3⟩ := ruleB_ok h
  have a := nm_strOk (nt_nm h1)
  have b : PyData.canLayAll0 (r.2.map PyData.str) = true := by
    have key : ∀ l : List Str, (∀ x ∈ l, nmB x = true) → PyData.canLayAll0 (l.map PyData.str) = true := by
      intro l
      induction l with
      | nil => exact fun _ => rfl
      | cons x l ih =>
        intro h
        show (PyData.canLay0 (.str x) && PyData.canLayAll0 (l.map PyData.str)) = true
        rw [nm_strOk (h x List.mem_cons_self), ih fun y hy => h y (List.mem_cons_of_mem _ hy)] <;> rfl
    exact key _ h3
  show (PyData.canLay0 (.str r.1) && (PyData.canLayAll0 (r.2.map PyData.str) && true)) = true
  rw [a, b] <;> rfl
theorem shaped_rule {r : Rule} (h : ruleB r = true) : SeqAt.shaped (encR r) = true := by
  unfold SeqAt.shaped
  rw [lay_rule h]
  have := (encR_key r).2.1
  simp
  omega
theorem shaped_rules {rs : List Rule} (h : ∀ r ∈ rs, ruleB r = true) : SeqAt.shaped (.list (rs.map encR)) = true := shaped_list fun d hd => by
  obtain ⟨r, hr, rfl⟩ := List.mem_map.mp hd
  exact ⟨lay_rule (h r hr), (encR_key r).2.1⟩
end
end Sh

set_option maxHeartbeats 4000000
/-! Layer d: a random grammar. -/
namespace Sh
open PySem PySem.Spec PyProof.Rows L2
open PySem.W (EachIs)
def abcL : List Str := ["a", "b", "c"]
def stuL : List Str := ["S", "T", "U"]
/-- a rule as a random grammar has them -/
structure RuleR (ts ls : List Str) (r : Rule) : Prop where
  l : r.1 ∈ ls
  n : r.2.length ≤ 3
  s : ∀ x ∈ r.2, x ∈ ts ∨ x ∈ ls
theorem abc_tm : ∀ x ∈ abcL, tmB x = true := by decide +kernel
theorem stu_nt : ∀ x ∈ stuL, ntB x = true := by decide +kernel
theorem ruleR_ok {n m : Nat} {r : Rule} (h : RuleR (abcL.take n) (stuL.take m) r) : ruleB r = true := by
  unfold ruleB
  rw [Bool.and_eq_true, Bool.and_eq_true, decide_eq_true_eq, List.all_eq_true]
  have := h.n
  refine ⟨stu_nt _ (List.mem_of_mem_take h.l), by omega, fun x hx => ?_⟩
  rcases h.s x hx with z | z
  · exact tm_nm (abc_tm x (List.mem_of_mem_take z))
  · exact nt_nm (stu_nt x (List.mem_of_mem_take z))
theorem random_valid {n m : Nat} (hn : 1 ≤ n) (hn3 : n ≤ 3) (hm : 1 ≤ m) {us : List Rule} (h1 : us.length ≤ 8) (hd : us.Nodup) (hr : ∀ r ∈ us, RuleR (abcL.take n) (stuL.take m) r) (hc : ∀ x ∈ stuL.take m, x ∈ us.map (·.1)) : Valid ⟨abcL.take n, "S", us⟩ := by
  have hS : ("S" : Str) ∈ stuL.take m := by
    obtain ⟨k, rfl⟩ : ∃ k, m = k + 1 := ⟨m - 1, by omega⟩
    exact List.mem_cons_self
  have hlen : (abcL.take n).length = n := by
    rw [List.length_take]
    show min n 3 = n
    omega
  have hS2 := hc _ hS
  refine ⟨by rw [hlen]; exact hn, by rw [hlen]; omega, ?_, by show us.length ≤ 12; omega, fun x hx => abc_tm x (List.mem_of_mem_take hx), ?_, fun r h => ruleR_ok (hr r h), hd, hS2, fun r h x hx => ?_⟩
  · obtain ⟨r, h, _⟩ := List.mem_map.mp hS2
    exact List.length_pos_of_mem h
  · have a : Asc ltS abcL := ascB_asc (by decide +kernel)
    exact List.Pairwise.sublist (List.take_sublist _ _) a
  · unfold symB
    rw [Bool.or_eq_true, decide_eq_true_eq, decide_eq_true_eq]
    rcases (hr r h).s x hx with z | z
    · exact .inr z
    · exact .inl (hc x z)
theorem each_rules {ts : List Str} : ∀ {ls : List Str} {es : List PyData}, EachIs (fun x y => ∃ (l : Str) (r : List Str), x = .str l ∧ y = encR (l, r) ∧ r.length ≤ 2 ∧ ∀ z ∈ r, z ∈ ts) (ls.map PyData.str) es →
    ∃ rs : List Rule, es = rs.map encR ∧ rs.map (·.1) = ls ∧ ∀ r ∈ rs, r.2.length ≤ 2 ∧ ∀ z ∈ r.2, z ∈ ts
  | [], _, h => by
    cases h
    exact ⟨[], rfl, rfl, fun r h => by cases h⟩
  | l :: ls, _, h => by
    cases h with
    | cons h t =>
      obtain ⟨l', r, e1, e2, h3, h4⟩ := h
      have el : l = l' := by simpa using e1
      subst el
      obtain ⟨rs, a, b, d⟩ := each_rules t
      refine ⟨(l, r) :: rs, by rw [e2, a] <;> rfl, by rw [List.map_cons, b], fun q hq => ?_⟩
      rcases List.mem_cons.mp hq with e | hq
      · rw [e]
        exact ⟨h3, h4⟩
      · exact d q hq
section
variable {Pg : Program} {w : World} {K : PySem.W.Frag} {mg : Str → Option Value} {base : Heap}
/-- the slots of the maker -/
def dRn (a : Addr) (n m : Nat) (d3 : Ds) (r : List Ds) : List Ds := [.adr a, .dat (.tuple ((abcL.take n).map .str)), .dat (.list ((stuL.take m).map .str)), d3] ++ r
theorem ok__law_random_grammar (T : Tb K mg) : Ok Pg w K mg base "_law_random_grammar" ["_law_cup_here"] 4 spMaker := by
  have O__law_roll := ok__law_roll (Pg := Pg) (w := w) (base := base) T
  have O__law_some := ok__law_some (Pg := Pg) (w := w) (base := base) T
  refine ok_defG (k := 3) T.d__law_random_grammar sc__law_random_grammar (by decide) rfl fun f cdv A outer s H E hr => ⟨_,
    (pss_cons (ps_set (i := 1) sc__law_random_grammar.nd rfl (Or.inr rfl) (pe_slice (k_sl K) (pe_tup (pa_cons pe_str (pa_cons pe_str (pa_cons pe_str pa_nil)))) po_none (po_some (pe_op op_addA pe_int (pe_callD O__law_roll (hr.mono (by decide)) (by rfl) (pa_cons (pv 0) (pa_cons pe_int pa_nil)))))))
      (pss_cons (ps_set (i := 2) sc__law_random_grammar.nd rfl (Or.inr rfl) (pe_slice (k_sl K) (pe_lst (pa_cons pe_str (pa_cons pe_str (pa_cons pe_str pa_nil)))) po_none (po_some (pe_op op_addA pe_int (pe_callD O__law_roll (hr.mono (by decide)) (by rfl) (pa_cons (pv 0) (pa_cons pe_int pa_nil)))))))
      (pss_cons (ps_setLc (i := 3) (own := [("_law_left", 8)]) (g := gName 8) rfl sc__law_random_grammar.nd rfl rfl (sw_true rfl rfl rfl (by decide +kernel)) (k_seq K (pv 2)) (blkOk_by (N := N__law_random_grammar) (sc := defScope s__law_random_grammar) (own := [("_law_left", 8)]) (by decide +kernel)) (fun _ _ _ _ _ => (pg_name (i := 8) sc__law_random_grammar.nd rfl (Or.inl rfl))) (fun _ _ _ _ _ => pts_nil) (fun _ _ _ _ _ => (pe_tup (pa_cons (pv 8) (pa_cons (pe_callTy (k_tuple K) (by rfl) T.b_tuple (by decide +kernel) (pa_cons (pe_lc (own := [("_law_turn", 4)]) (g := gName 4) rfl sc__law_random_grammar.nd (pi_range1 (by rfl) T.b_range (pa_cons (pe_callD O__law_roll (hr.mono (by decide)) (by rfl) (pa_cons (pv 0) (pa_cons pe_int pa_nil))) pa_nil)) (blkOk_by (N := N__law_random_grammar) (own := [("_law_turn", 4)]) (by rfl)) (fun _ _ _ _ _ => (pg_name (i := 4) sc__law_random_grammar.nd rfl (Or.inl rfl))) (fun _ _ _ _ _ => pts_nil) (fun _ _ _ _ _ => (pe_callD O__law_some (hr.mono (by decide)) (by rfl) (pa_cons (pv 0) (pa_cons (pe_callTy (k_list K) (by rfl) T.b_list (by decide +kernel) (pa_cons (pv 1) pa_nil)) pa_nil))))) pa_nil)) pa_nil)))))
      (pss_cons (ps_for PassesOwn.never rfl (pi_range1 (by rfl) T.b_range (pa_cons (pe_op op_addA pe_int (pe_callD O__law_roll (hr.mono (by decide)) (by rfl) (pa_cons (pv 0) (pa_cons pe_int pa_nil)))) pa_nil)) (pg_name (i := 4) sc__law_random_grammar.nd rfl (Or.inl rfl)) (pss_cons (ps_set (i := 5) sc__law_random_grammar.nd rfl (Or.inl rfl) (pe_callTy (k_tuple K) (by rfl) T.b_tuple (by decide +kernel) (pa_cons (pe_lc (own := [("_law_place", 9)]) (g := gName 9) rfl sc__law_random_grammar.nd (pi_range1 (by rfl) T.b_range (pa_cons (pe_callD O__law_some (hr.mono (by decide)) (by rfl) (pa_cons (pv 0) (pa_cons (pe_lst (pa_cons pe_int (pa_cons pe_int (pa_cons pe_int (pa_cons pe_int (pa_cons pe_int (pa_cons pe_int pa_nil))))))) pa_nil))) pa_nil)) (blkOk_by (N := N__law_random_grammar) (sc := defScope s__law_random_grammar) (own := [("_law_place", 9)]) (by decide +kernel)) (fun _ _ _ _ _ => (pg_name (i := 9) sc__law_random_grammar.nd rfl (Or.inl rfl))) (fun _ _ _ _ _ => pts_nil) (fun _ _ _ _ _ => (pe_callD O__law_some (hr.mono (by decide)) (by rfl) (pa_cons (pv 0) (pa_cons (pe_op op_addA (pe_op op_addA (pe_callTy (k_list K) (by rfl) T.b_list (by decide +kernel) (pa_cons (pv 1) pa_nil)) (pe_callTy (k_list K) (by rfl) T.b_list (by decide +kernel) (pa_cons (pv 1) pa_nil))) (pv 2)) pa_nil))))) pa_nil)))
      (pss_cons (ps_set (i := 6) sc__law_random_grammar.nd rfl (Or.inl rfl) (pe_tup (pa_cons (pe_callD O__law_some (hr.mono (by decide)) (by rfl) (pa_cons (pv 0) (pa_cons (pv 2) pa_nil))) (pa_cons (pv 5) pa_nil))))
      (pss_one (ps_set (i := 3) sc__law_random_grammar.nd rfl (Or.inl rfl) (pe_op op_addA (pv 3) (pe_ifExp (pt_cmpR (k_notin K (hu65 hr)) (pv 6) (pv 3) (by rfl)) (pe_lst (pa_cons (pv 6) pa_nil)) (pe_lst pa_nil))))))))
      (pss_cons (ps_set (i := 7) sc__law_random_grammar.nd rfl (Or.inl rfl) (pe_lst pa_nil))
      (pss_cons (ps_for PassesOwn.never rfl (k_seq K (pv 3)) (pg_name (i := 6) sc__law_random_grammar.nd rfl (Or.inl rfl)) (pss_one (ps_set (i := 7) sc__law_random_grammar.nd rfl (Or.inl rfl) (pe_op op_addA (pv 7) (pe_ifExp (pt_cmpR (k_notin K (hu65 hr)) (pv 6) (pv 7) (by rfl)) (pe_lst (pa_cons (pv 6) pa_nil)) (pe_lst pa_nil))))))
      (pss_one (ps_ret (pe_tup (pa_cons (pv 1) (pa_cons pe_str (pa_cons (pe_callTy (k_tuple K) (by rfl) T.b_tuple (by decide +kernel) (pa_cons (pv 7) pa_nil)) pa_nil)))))))))))), fun a ds _ hp => ?_⟩
  subst hp
  -- terminals, lefts
  refine q_set (A := fun d => ∃ n, 1 ≤ n ∧ n ≤ 3 ∧ d = .tuple ((abcL.take n).map .str)) (Ev.imp (ev_cutR (b := 1) (m := 3) (xs := abcL.map .str) (ev_tup (ea_cons ev_str (ea_cons ev_str (ea_cons ev_str ea_nil))) (by simp)) (.inr rfl) rfl (by decide) (by decide)) fun d hc => ?_) fun d hd => ?_
  · obtain ⟨n, h1, h2, _, h3⟩ := hc
    exact ⟨n, h1, by omega, by rw [h3 rfl, List.map_take]⟩
  obtain ⟨n, n1, n3, rfl⟩ := hd
  refine q_set (A := fun d => ∃ m, 1 ≤ m ∧ m ≤ 3 ∧ d = .list ((stuL.take m).map .str)) (Ev.imp (ev_cutR (b := 1) (m := 3) (xs := stuL.map .str) (ev_lst (ea_cons ev_str (ea_cons ev_str (ea_cons ev_str ea_nil))) (by simp)) (.inl rfl) rfl (by decide) (by decide)) fun d hc => ?_) fun d hd => ?_
  · obtain ⟨m, h1, h2, h3, _⟩ := hc
    exact ⟨m, h1, by omega, by rw [h3 rfl, List.map_take]⟩
  obtain ⟨m, m1, m3, rfl⟩ := hd
  have ln : ((abcL.take n).map PyData.str).length = n := by
    rw [List.length_map, List.length_take]
    show min n 3 = n
    omega
  have lm : ((stuL.take m).map PyData.str).length = m := by
    rw [List.length_map, List.length_take]
    show min m 3 = m
    omega
  generalize hts : abcL.take n = ts at ln
  generalize hls : stuL.take m = ls at lm
  have good : ∀ r, RuleR ts ls r → ruleB r = true := fun r h => by
    rw [← hts, ← hls] at h
    exact ruleR_ok h
  -- a rule for each left side
  refine q_set (A := fun d => ∃ rs : List Rule, d = .list (rs.map encR) ∧ rs.map (·.1) = ls ∧ ∀ r ∈ rs, r.2.length ≤ 2 ∧ ∀ z ∈ r.2, z ∈ ts) (Ev.imp (ev_lcZ (wk_list (ev_var rfl)) (fun x y => ∃ (l : Str) (r : List Str), x = .str l ∧ y = encR (l, r) ∧ r.length ≤ 2 ∧ ∀ z ∈ r, z ∈ ts) (by omega) fun x hx => ?_) fun d hd => ?_) fun d hd => ?_
  · obtain ⟨l, hl, rfl⟩ := List.mem_map.mp hx
    refine ev_tupP (B := fun xs => ∃ r : List Str, xs = [.str l, .tuple (r.map .str)] ∧ r.length ≤ 2 ∧ ∀ z ∈ r, z ∈ ts) (ea_consP (A := fun d => d = .str l) (B := fun xs => ∃ r : List Str, xs = [.tuple (r.map .str)] ∧ r.length ≤ 2 ∧ ∀ z ∈ r, z ∈ ts) (ev_var rfl) (ea_consP (A := fun d => ∃ r : List Str, d = .tuple (r.map .str) ∧ r.length ≤ 2 ∧ ∀ z ∈ r, z ∈ ts) (ev_cbP (A := fun xs => ∃ r : List Str, xs = [.list (r.map .str)] ∧ r.length ≤ 2 ∧ ∀ z ∈ r, z ∈ ts) (ea_consP
      (ev_lcE (B := 2) (Itm := fun _ => True) (by decide) ((wk_rng1P (P := fun k => k < 3) (ea_consP (ev_roll rfl (ea_cons ev_int ea_nil) (by decide) (by decide)) ea_nil fun x xs ⟨k, e, h0, h1⟩ e2 => ⟨k, by rw [e, e2], h0, by omega, h1⟩)).imp fun q item ⟨k, hk, e, _⟩ => ⟨by omega, fun _ _ => trivial⟩) (fun d => d ∈ ts.map PyData.str)
        fun x _ => ev_some rfl (ea_cons (ev_cb (ea_cons (ev_var rfl) ea_nil) (rl_list _ (.inr rfl))) ea_nil) (by omega) (by omega)) ea_nil fun x xs ⟨ds, e, h2, h3⟩ e2 => ?_) fun xs ⟨r, e, h2, h3⟩ => ?_) ea_nil fun x xs ⟨r, e, h⟩ e2 => ⟨r, by rw [e, e2], h⟩) fun x xs e ⟨r, e2, h⟩ => ⟨r, by rw [e, e2], h⟩) fun xs ⟨r, e, h2, h3⟩ => ⟨by rw [e]; simp, l, r, rfl, by rw [e] <;> rfl, h2, h3⟩
    · obtain ⟨ys, ey, hy⟩ := strs_of h3
      refine ⟨ys, by rw [e, e2, ey], ?_, hy⟩
      rw [ey, List.length_map] at h2
      exact h2
    · subst e
      exact fun M H vs t r' Q q => rl_tuple M H vs t r' Q fun z d H' e' r'' hd => q z d H' e' r'' ⟨r, hd, h2, h3⟩
  · obtain ⟨es, e, he⟩ := hd
    obtain ⟨rs, e2, h⟩ := each_rules he
    exact ⟨rs, by rw [e, e2], h⟩
  obtain ⟨rs0, rfl, hl0, h0⟩ := hd
  have hrs0 : ∀ r ∈ rs0, RuleR ts ls r := fun r hr => ⟨by rw [← hl0]; exact List.mem_map.mpr ⟨r, hr, rfl⟩, by have := (h0 r hr).1; omega, fun x hx => .inl ((h0 r hr).2 x hx)⟩
  have hlen0 : rs0.length = m := by
    have q := congrArg List.length hl0
    rw [List.length_map] at q
    rw [List.length_map] at lm
    omega
  have l5 : (ts.map PyData.str).length = n := ln
  -- some more rules
  refine run_seq (N1 := fun δ => ∃ (rs : List Rule) (s4 s5 s6 s7 s8 s9 : Ds), δ = [.adr a, .dat (.tuple (ts.map .str)), .dat (.list (ls.map .str)), .dat (.list (rs.map encR)), s4, s5, s6, s7, s8, s9] ∧ rs.length ≤ m + 5 ∧ (∀ r ∈ rs, RuleR ts ls r) ∧ ∀ x ∈ ls, x ∈ rs.map (·.1))
    (run_for (wk_rng1P (P := fun k => k ≤ 5) (ea_consP (A := fun d => ∃ z, d = .int z ∧ 0 ≤ z ∧ z ≤ 5) (ev_add2 (P := fun z => z = 1) (R := fun k => 0 ≤ k ∧ k < 5) ev_i (Ev.imp (ev_roll rfl (ea_cons ev_int ea_nil) (by decide) (by decide)) fun d ⟨k, ed, h0, h1⟩ => ⟨k, ed, h0, h1⟩) fun u v hu hv => ⟨by omega, by omega⟩) ea_nil fun x xs ⟨k, e, h0, h1⟩ e2 => ⟨k, by rw [e, e2], h0, by omega, h1⟩)) fun q item ⟨k, hk, hq, hi⟩ => ?_) fun δ1 hδ => ?_
  · refine ⟨fun i δ => ∃ (rs : List Rule) (s4 s5 s6 s7 s8 s9 : Ds), δ = [.adr a, .dat (.tuple (ts.map .str)), .dat (.list (ls.map .str)), .dat (.list (rs.map encR)), s4, s5, s6, s7, s8, s9] ∧ rs.length ≤ m + i ∧ (∀ r ∈ rs, RuleR ts ls r) ∧ ∀ x ∈ ls, x ∈ rs.map (·.1), ⟨rs0, _, _, _, _, _, _, rfl, by omega, hrs0, fun x hx => by rw [hl0]; exact hx⟩, ?_, fun δ' ⟨rs, s4, s5, s6, s7, s8, s9, e, h1, h2, h3⟩ => ⟨rs, s4, s5, s6, s7, s8, s9, e, by omega, h2, h3⟩⟩
    rintro i δi hlt ⟨rs, s4, s5, s6, s7, s8, s9, rfl, hl1, hl2, hl3⟩
    refine ⟨_, _, gb_name, ?_⟩
    refine q_set (A := fun d => ∃ r : List Str, d = .tuple (r.map .str) ∧ r.length ≤ 3 ∧ ∀ x ∈ r, x ∈ ts ∨ x ∈ ls) (ev_cbP (A := fun xs => ∃ r : List Str, xs = [.list (r.map .str)] ∧ r.length ≤ 3 ∧ ∀ x ∈ r, x ∈ ts ∨ x ∈ ls) (ea_consP
      (ev_lcE (B := 3) (Itm := fun _ => True) (by decide) ((wk_rng1P (P := fun k => k ≤ 3) (ea_consP (ev_some (xs := ([0, 1, 1, 2, 2, 3] : List Int).map .int) rfl (ea_cons (ev_lst (ea_cons ev_int (ea_cons ev_int (ea_cons ev_int (ea_cons ev_int (ea_cons ev_int (ea_cons ev_int ea_nil)))))) (by decide)) ea_nil) (by decide) (by decide)) ea_nil fun x xs hx e2 => ?_)).imp fun q item ⟨k, hk, e, _⟩ => ⟨by omega, fun _ _ => trivial⟩) (fun d => d ∈ (ts ++ ts ++ ls).map PyData.str)
        fun x _ => ev_some rfl (ea_cons (Ev.is (ev_op (ev_op (ev_cb (ea_cons (ev_var rfl) ea_nil) (rl_list _ (.inr rfl))) (ev_cb (ea_cons (ev_var rfl) ea_nil) (rl_list _ (.inr rfl))) (rd_addL (by omega))) (ev_var rfl) (rd_addL (by rw [List.length_append]; omega))) (by rw [List.map_append, List.map_append])) ea_nil) (by rw [List.map_append, List.map_append, List.length_append, List.length_append]; omega) (by rw [List.map_append, List.map_append, List.length_append, List.length_append]; omega)) ea_nil fun x xs ⟨ds, e, h2, h3⟩ e2 => ?_) fun xs ⟨r, e, h2, h3⟩ => ?_) fun d hd => ?_
    · obtain ⟨k, hk, rfl⟩ := List.mem_map.mp hx
      have b : ∀ k ∈ ([0, 1, 1, 2, 2, 3] : List Int), 0 ≤ k ∧ k ≤ 100000 ∧ k ≤ 3 := by decide
      exact ⟨k, by rw [e2], b k hk⟩
    · obtain ⟨ys, ey, hy⟩ := strs_of h3
      refine ⟨ys, by rw [e, e2, ey], ?_, fun y h => ?_⟩
      · rw [ey, List.length_map] at h2
        exact h2
      · have := hy y h
        simp only [List.mem_append] at this
        rcases this with (z | z) | z
        · exact .inl z
        · exact .inl z
        · exact .inr z
    · subst e
      exact fun M H vs t r' Q q => rl_tuple M H vs t r' Q fun z d H' e' r'' hd => q z d H' e' r'' ⟨r, hd, h2, h3⟩
    obtain ⟨r, rfl, hr3, hrs⟩ := hd
    refine q_set (A := fun d => ∃ q : Rule, d = encR q ∧ RuleR ts ls q) (ev_tupP (B := fun xs => ∃ l ∈ ls, xs = [.str l, .tuple (r.map .str)]) (ea_consP (A := fun d => d ∈ ls.map PyData.str) (B := fun xs => xs = [.tuple (r.map .str)]) (ev_some rfl (ea_cons (ev_var rfl) ea_nil) (by omega) (by omega)) (ea_consP (A := fun d => d = .tuple (r.map .str)) (ev_var rfl) ea_nil fun x xs e e2 => by rw [e, e2]) fun x xs hx e => ?_) fun xs ⟨l, hl, e⟩ => ⟨by rw [e]; simp, (l, r), by rw [e] <;> rfl, ⟨hl, hr3, hrs⟩⟩) fun d hd => ?_
    · obtain ⟨l, hl, rfl⟩ := List.mem_map.mp hx
      exact ⟨l, hl, by rw [e]⟩
    obtain ⟨q, rfl, hq⟩ := hd
    refine run_set (A := fun d => ∃ rs' : List Rule, d = .list (rs'.map encR) ∧ rs'.length ≤ rs.length + 1 ∧ (∀ r ∈ rs', RuleR ts ls r) ∧ ∀ x ∈ ls, x ∈ rs'.map (·.1)) (ev_opP (A := fun d => d = .list (rs.map encR)) (B := fun d => d = .list [encR q] ∨ d = .list []) (ev_var rfl) (ev_ifP (B := fun _ => True) (et_any (et_t (ev_op (ev_var rfl) (ev_var rfl) (rd_notInL (shaped_rule (good q hq)) (shaped_rules fun r hr => good r (hl2 r hr)))))) (fun _ => Ev.imp (ev_lst (ea_cons (ev_var rfl) ea_nil) (by simp)) fun d e => .inl e) fun _ => Ev.imp (ev_lst ea_nil (by simp)) fun d e => .inr e) fun x y ex hy => ?_) fun d hd => ?_
    · subst ex
      have lr : (rs.map encR).length = rs.length := List.length_map ..
      rcases hy with ey | ey
      · subst ey
        exact fun M H v u t r1 r2 Q k => rd_addL (by simp; omega) M H v u t r1 r2 Q fun z d H' e' r' hd => k z d H' e' r' ⟨rs ++ [q], by rw [hd, List.map_append] <;> rfl, by simp, fun r hr => by
          rcases List.mem_append.mp hr with z | z
          · exact hl2 r z
          · rw [List.mem_singleton.mp z]
            exact hq, fun x hx => by
          rw [List.map_append]
          exact List.mem_append_left _ (hl3 x hx)⟩
      · subst ey
        exact fun M H v u t r1 r2 Q k => rd_addL (by simp; omega) M H v u t r1 r2 Q fun z d H' e' r' hd => k z d H' e' r' ⟨rs, by rw [hd, List.append_nil], by omega, hl2, hl3⟩
    · obtain ⟨rs', rfl, a1, a2, a3⟩ := hd
      exact ⟨rs', _, _, _, _, _, _, rfl, by omega, a2, a3⟩
  obtain ⟨rs, s4, s5, s6, s7, s8, s9, rfl, hr1, hr2, hr3⟩ := hδ
  have lr : (rs.map encR).length = rs.length := List.length_map ..
  -- each once
  refine q_setD (d := .list []) (ev_lst ea_nil (by simp)) ?_
  refine run_seq (N1 := fun δ => ∃ (us : List Rule) (s4 s5 s6 s8 s9 : Ds), δ = [.adr a, .dat (.tuple (ts.map .str)), .dat (.list (ls.map .str)), .dat (.list (rs.map encR)), s4, s5, s6, .dat (.list (us.map encR)), s8, s9] ∧ us.length ≤ rs.length ∧ us.Nodup ∧ (∀ u ∈ us, u ∈ rs) ∧ ∀ r ∈ rs, r ∈ us)
    (run_for (wk_list (ev_var rfl)) fun q item ⟨hq, hi⟩ => ?_) fun δ1 hδ => ?_
  · rw [lr] at hq
    subst hq
    refine ⟨fun i δ => ∃ (us : List Rule) (s4 s5 s6 s8 s9 : Ds), δ = [.adr a, .dat (.tuple (ts.map .str)), .dat (.list (ls.map .str)), .dat (.list (rs.map encR)), s4, s5, s6, .dat (.list (us.map encR)), s8, s9] ∧ us.length ≤ i ∧ us.Nodup ∧ (∀ u ∈ us, u ∈ rs) ∧ ∀ r ∈ rs.take i, r ∈ us, ⟨[], _, _, _, _, _, rfl, Nat.le_refl _, List.nodup_nil, fun u h => (by cases h), fun r h => (by simp at h)⟩, ?_, fun δ' ⟨us, s4, s5, s6, s8, s9, e, h1, h2, h3, h4⟩ => ⟨us, s4, s5, s6, s8, s9, e, h1, h2, h3, by rw [List.take_length] at h4; exact h4⟩⟩
    rintro i δi hlt ⟨us, s4, s5, s6, s8, s9, rfl, hu1, hu2, hu3, hu4⟩
    have hit : item i = encR rs[i] := by
      rw [hi i]
      exact getD_of (by rw [List.getElem?_map, List.getElem?_eq_getElem hlt] <;> rfl)
    have htk : rs.take (i + 1) = rs.take i ++ [rs[i]] := by
      rw [List.take_add_one, List.getElem?_eq_getElem hlt] <;> rfl
    have hmem : rs[i] ∈ rs := List.getElem_mem hlt
    rw [hit]
    generalize rs[i] = q at hmem htk
    refine ⟨_, _, gb_name, ?_⟩
    refine run_set (A := fun d => d = .list ((us ++ if q ∈ us then [] else [q]).map encR)) (Ev.is (ev_op (ev_var rfl) (ev_if (b := !decide (q ∈ us)) (P := fun d => d = .list ((if q ∈ us then [] else [q]).map encR)) (et_t (Ev.is (ev_op (ev_var rfl) (ev_var rfl) (rd_notInL (shaped_rule (good q (hr2 q hmem))) (shaped_rules fun r hr => good r (hr2 r (hu3 r hr))))) (congrArg (fun b => PyData.bool (!b)) (any_rule us q)))) (fun hb => ?_) fun hb => ?_) (rd_addL ?_)) (by rw [List.map_append])) fun d e => ?_
    · have hn : q ∉ us := by simpa using hb
      rw [if_neg hn]
      exact ev_lst (ea_cons (ev_var rfl) ea_nil) (by simp)
    · have hn : q ∈ us := by simpa using hb
      rw [if_pos hn]
      exact ev_lst ea_nil (by simp)
    · rw [List.length_map, List.length_map]
      split
      · simp
        omega
      · simp
        omega
    · rw [e]
      refine ⟨us ++ if q ∈ us then [] else [q], _, _, _, _, _, rfl, ?_, ?_, ?_, ?_⟩
      · rw [List.length_append]
        split
        · simp
          omega
        · simp
          omega
      · split
        · rw [List.append_nil]
          exact hu2
        · rename_i hn
          rw [List.nodup_append]
          refine ⟨hu2, by simp, fun x hx y hy e => hn ?_⟩
          rw [List.mem_singleton.mp hy] at e
          rw [← e]
          exact hx
      · intro u hu
        rcases List.mem_append.mp hu with z | z
        · exact hu3 u z
        · split at z
          · cases z
          · rw [List.mem_singleton.mp z]
            exact hmem
      · intro r hr
        rw [htk] at hr
        rcases List.mem_append.mp hr with z | z
        · exact List.mem_append_left _ (hu4 r z)
        · rw [List.mem_singleton.mp z]
          by_cases hn : q ∈ us
          · exact List.mem_append_left _ hn
          · rw [if_neg hn]
            exact List.mem_append_right _ (List.mem_singleton.mpr rfl)
  obtain ⟨us, t4, t5, t6, t8, t9, rfl, hu1, hu2, hu3, hu4⟩ := hδ
  refine run_ret (Ev.imp (ev_tup (ea_cons (ev_var rfl) (ea_cons ev_str (ea_cons (ev_cb (ea_cons (ev_var rfl) ea_nil) rl_tuple) ea_nil))) (by simp)) fun d e => ⟨⟨ts, "S", us⟩, e, ?_⟩)
  rw [← hts]
  refine random_valid (m := m) n1 n3 m1 (by omega) hu2 (fun r hr => ?_) fun x hx => ?_
  · rw [hts, hls]
    exact hr2 r (hu3 r hr)
  · rw [hls] at hx
    obtain ⟨r, hr, e2⟩ := List.mem_map.mp (hr3 x hx)
    exact List.mem_map.mpr ⟨r, hu4 r hr, e2⟩
end
end Sh

set_option maxHeartbeats 4000000
/-! Layer e: any grammar, the law's own grammars, right_here. -/
namespace Sh
open PySem PySem.Spec PyProof.Rows L2
def rNotInT (K : PySem.W.Frag) : R2 := fun x y H Q => ∃ d ds, Dp K H x d ∧ Dp K H y (.tuple ds) ∧ SeqAt.shaped d = true ∧ SeqAt.shaped (.tuple ds) = true ∧ Q (.bl (!ds.any fun z => PyData.eqv z d)) H
theorem op_notInT {X : Cx} (hu : X.A.units + 65 < cLine) : OpR X (compareOp .NotIn) (rNotInT X.K) := by
  intro pins s σ H x y v u Q I rx ry h
  obtain ⟨d, ds, hd, he, sd, se, q⟩ := h
  obtain ⟨as, r1⟩ := Dp.reads I d x v hd rx
  obtain ⟨bs, r2⟩ := Dp.reads I (.tuple ds) y u he ry
  exact SeqAt.notIn_tuple_reads r2 r1 (SeqAt.canLay_of_shaped se) (SeqAt.canLay_of_shaped sd) (room_in_shaped sd hu) ⟨.bl _, H, I, rfl, q⟩
theorem k_notinT {X : Cx} (K : PySem.W.Frag) (hu : X.A.units + 65 < cLine) (hK : X.K = K := by rfl) : OpR X (compareOp .NotIn) (rNotInT K) := hK ▸ op_notInT hu
theorem rd_notInT {K : PySem.W.Frag} {x : PyData} {ds : List PyData} (hx : SeqAt.shaped x = true) (hy : SeqAt.shaped (.tuple ds) = true) : RD2 (rNotInT K) x (.tuple ds) fun d => d = .bool (!ds.any fun z => PyData.eqv z x) := fun M H v u t r1 r2 Q q =>
  ⟨x, ds, r1.dp, r2.dp, hx, hy, q _ _ H (Ex.refl _ H) (.bl _) rfl⟩
theorem shaped_tup {ds : List PyData} (h : SeqAt.shaped (.list ds) = true) : SeqAt.shaped (.tuple ds) = true := h
theorem eqvAll_pairs : ∀ l l' : List Item, PyData.eqvAll (l.map pairD) (l'.map pairD) = decide (l = l')
  | [], [] => by simp [PyData.eqvAll]
  | [], _ :: _ => by simp [PyData.eqvAll]
  | _ :: _, [] => by simp [PyData.eqvAll]
  | x :: l, y :: l' => by
    rw [List.map_cons, List.map_cons, PyData.eqvAll, eqvAll_pairs l l', eqv_pair]
    by_cases h1 : x = y <;> by_cases h2 : l = l' <;> simp [h1, h2]
theorem eqv_tups (l l' : List Item) : PyData.eqv (.tuple (l.map pairD)) (.tuple (l'.map pairD)) = decide (l = l') := by
  rw [← eqvAll_pairs]
  simp [PyData.eqv]
section
variable {Pg : Program} {w : World} {K : PySem.W.Frag} {mg : Str → Option Value} {base : Heap}
theorem ok__law_grammar (T : Tb K mg) : Ok Pg w K mg base "_law_grammar" ["_law_cup_here"] 6 spMaker := by
  have O__law_roll := ok__law_roll (Pg := Pg) (w := w) (base := base) T
  have O__law_known_grammar := ok__law_known_grammar (Pg := Pg) (w := w) (base := base) T
  have O__law_random_grammar := ok__law_random_grammar (Pg := Pg) (w := w) (base := base) T
  refine ok_defG (k := 5) T.d__law_grammar sc__law_grammar (by decide) rfl fun f cdv A outer s H E hr => ⟨_,
    (pss_one (ps_ret (pe_ifExp (pt_cmpR (k_eq K hr.units) (pe_callD O__law_roll (hr.mono (by decide)) (by rfl) (pa_cons (pv 0) (pa_cons pe_int pa_nil))) pe_int (nomark _)) (pe_callD O__law_known_grammar (hr.mono (by decide)) (by rfl) (pa_cons (pv 0) pa_nil)) (pe_callD O__law_random_grammar (hr.mono (by decide)) (by rfl) (pa_cons (pv 0) pa_nil))))), fun a ds _ hp => ?_⟩
  subst hp
  exact run_ret (ev_ifP (B := fun _ => True) (et_roll rfl (by decide) (by decide)) (fun _ => ev_maker rfl) fun _ => ev_maker rfl)
def againG : G := ⟨["b", "c"], "S", [("S", ["b", "S"]), ("S", ["c"])]⟩
def partsG : G := ⟨["a", "b", "c"], "S", [("S", ["T", "a", "S"]), ("S", ["T"]), ("T", ["b", "T"]), ("T", ["c"])]⟩
def nothingG : G := ⟨["a", "b"], "S", [("S", ["A", "S", "b"]), ("S", []), ("A", ["a"]), ("A", [])]⟩
abbrev spAgain : Sp := spD 0 (fun _ => True) fun _ d => d = encG againG
theorem ok__law_again (T : Tb K mg) : Ok Pg w K mg base "_law_again" [] 1 spAgain := by
  refine ok_def (k := 0) T.d__law_again sc__law_again (by decide) fun f cdv A outer s H E hr => ⟨_,
    (pss_one (ps_ret (pe_tup (pa_cons (pe_tup (pa_cons pe_str (pa_cons pe_str pa_nil))) (pa_cons pe_str (pa_cons (pe_tup (pa_cons (pe_tup (pa_cons pe_str (pa_cons (pe_tup (pa_cons pe_str (pa_cons pe_str pa_nil))) pa_nil))) (pa_cons (pe_tup (pa_cons pe_str (pa_cons (pe_tup (pa_cons pe_str pa_nil)) pa_nil))) pa_nil))) pa_nil)))))), fun ds _ hp => ?_⟩
  exact run_ret (ev_tup (ea_cons (ev_tup (ea_cons ev_str (ea_cons ev_str ea_nil)) (by first | (simp; done) | decide)) (ea_cons ev_str (ea_cons (ev_tup (ea_cons (ev_tup (ea_cons ev_str (ea_cons (ev_tup (ea_cons ev_str (ea_cons ev_str ea_nil)) (by first | (simp; done) | decide)) ea_nil)) (by first | (simp; done) | decide)) (ea_cons (ev_tup (ea_cons ev_str (ea_cons (ev_tup (ea_cons ev_str ea_nil) (by first | (simp; done) | decide)) ea_nil)) (by first | (simp; done) | decide)) ea_nil)) (by first | (simp; done) | decide)) ea_nil))) (by first | (simp; done) | decide))
abbrev spOwnTwo : Sp := spD 0 (fun _ => True) fun _ d => d = .tuple [encG partsG, encG nothingG]
theorem ok__law_own_two (T : Tb K mg) : Ok Pg w K mg base "_law_own_two" [] 1 spOwnTwo := by
  refine ok_def (k := 0) T.d__law_own_two sc__law_own_two (by decide) fun f cdv A outer s H E hr => ⟨_,
    (pss_one (ps_ret (pe_tup (pa_cons (pe_tup (pa_cons (pe_tup (pa_cons pe_str (pa_cons pe_str (pa_cons pe_str pa_nil)))) (pa_cons pe_str (pa_cons (pe_tup (pa_cons (pe_tup (pa_cons pe_str (pa_cons (pe_tup (pa_cons pe_str (pa_cons pe_str (pa_cons pe_str pa_nil)))) pa_nil))) (pa_cons (pe_tup (pa_cons pe_str (pa_cons (pe_tup (pa_cons pe_str pa_nil)) pa_nil))) (pa_cons (pe_tup (pa_cons pe_str (pa_cons (pe_tup (pa_cons pe_str (pa_cons pe_str pa_nil))) pa_nil))) (pa_cons (pe_tup (pa_cons pe_str (pa_cons (pe_tup (pa_cons pe_str pa_nil)) pa_nil))) pa_nil))))) pa_nil)))) (pa_cons (pe_tup (pa_cons (pe_tup (pa_cons pe_str (pa_cons pe_str pa_nil))) (pa_cons pe_str (pa_cons (pe_tup (pa_cons (pe_tup (pa_cons pe_str (pa_cons (pe_tup (pa_cons pe_str (pa_cons pe_str (pa_cons pe_str pa_nil)))) pa_nil))) (pa_cons (pe_tup (pa_cons pe_str (pa_cons (pe_tup pa_nil) pa_nil))) (pa_cons (pe_tup (pa_cons pe_str (pa_cons (pe_tup (pa_cons pe_str pa_nil)) pa_nil))) (pa_cons (pe_tup (pa_cons pe_str (pa_cons (pe_tup pa_nil) pa_nil))) pa_nil))))) pa_nil)))) pa_nil))))), fun ds _ hp => ?_⟩
  exact run_ret (ev_tup (ea_cons (ev_tup (ea_cons (ev_tup (ea_cons ev_str (ea_cons ev_str (ea_cons ev_str ea_nil))) (by first | (simp; done) | decide)) (ea_cons ev_str (ea_cons (ev_tup (ea_cons (ev_tup (ea_cons ev_str (ea_cons (ev_tup (ea_cons ev_str (ea_cons ev_str (ea_cons ev_str ea_nil))) (by first | (simp; done) | decide)) ea_nil)) (by first | (simp; done) | decide)) (ea_cons (ev_tup (ea_cons ev_str (ea_cons (ev_tup (ea_cons ev_str ea_nil) (by first | (simp; done) | decide)) ea_nil)) (by first | (simp; done) | decide)) (ea_cons (ev_tup (ea_cons ev_str (ea_cons (ev_tup (ea_cons ev_str (ea_cons ev_str ea_nil)) (by first | (simp; done) | decide)) ea_nil)) (by first | (simp; done) | decide)) (ea_cons (ev_tup (ea_cons ev_str (ea_cons (ev_tup (ea_cons ev_str ea_nil) (by first | (simp; done) | decide)) ea_nil)) (by first | (simp; done) | decide)) ea_nil)))) (by first | (simp; done) | decide)) ea_nil))) (by first | (simp; done) | decide)) (ea_cons (ev_tup (ea_cons (ev_tup (ea_cons ev_str (ea_cons ev_str ea_nil)) (by first | (simp; done) | decide)) (ea_cons ev_str (ea_cons (ev_tup (ea_cons (ev_tup (ea_cons ev_str (ea_cons (ev_tup (ea_cons ev_str (ea_cons ev_str (ea_cons ev_str ea_nil))) (by first | (simp; done) | decide)) ea_nil)) (by first | (simp; done) | decide)) (ea_cons (ev_tup (ea_cons ev_str (ea_cons (ev_tup ea_nil (by first | (simp; done) | decide)) ea_nil)) (by first | (simp; done) | decide)) (ea_cons (ev_tup (ea_cons ev_str (ea_cons (ev_tup (ea_cons ev_str ea_nil) (by first | (simp; done) | decide)) ea_nil)) (by first | (simp; done) | decide)) (ea_cons (ev_tup (ea_cons ev_str (ea_cons (ev_tup ea_nil (by first | (simp; done) | decide)) ea_nil)) (by first | (simp; done) | decide)) ea_nil)))) (by first | (simp; done) | decide)) ea_nil))) (by first | (simp; done) | decide)) ea_nil)) (by first | (simp; done) | decide))
abbrev spRightHere : Sp := spG 1 (fun ds => ∃ g : G, ds = [encG g] ∧ Valid g) Yes
theorem ok__law_right_here (T : Tb K mg) : Ok Pg w K mg base "_law_right_here" ["_law_cup_here", "_law_grammar_here"] 7 spRightHere := by
  have O__law_roll := ok__law_roll (Pg := Pg) (w := w) (base := base) T
  have O__law_all_items := ok__law_all_items (Pg := Pg) (w := w) (base := base) T
  have O__law_closed := ok__law_closed (Pg := Pg) (w := w) (base := base) T
  have O_items_of := ok_items_of (Pg := Pg) (w := w) (base := base) T
  have O_closed := ok_closed (Pg := Pg) (w := w) (base := base) T
  refine ok_defG (k := 6) T.d__law_right_here sc__law_right_here (by decide) rfl fun f cdv A outer s H E hr => ⟨_,
    (pss_cons (ps_set (i := 2) sc__law_right_here.nd rfl (Or.inl rfl) (pe_callD O__law_all_items (hr.mono (by decide)) (by rfl) (pa_cons (pv 1) pa_nil)))
      (pss_cons (ps_if (pt_cmpR (k_ne K hr.units) (pe_callD O_items_of (hr.mono (by decide)) (by rfl) (pa_cons (pv 1) pa_nil)) (pe_callTy (k_tuple K) (by rfl) T.b_tuple (by decide +kernel) (pa_cons (pv 2) pa_nil)) (nomark _)) (pss_one (ps_ret pe_bl)) pss_nil)
      (pss_cons (ps_for PassesOwn.never rfl (pi_range1 (by rfl) T.b_range (pa_cons pe_int pa_nil)) (pg_name (i := 3) sc__law_right_here.nd rfl (Or.inl rfl)) (pss_cons (ps_set (i := 4) sc__law_right_here.nd rfl (Or.inl rfl) (pe_callTy (k_tuple K) (by rfl) T.b_tuple (by decide +kernel) (pa_cons (pe_lc (own := [("_law_item", 6)]) (g := gName 6) rfl sc__law_right_here.nd (k_seq K (pv 2)) (blkOk_by (N := N__law_right_here) (sc := defScope s__law_right_here) (own := [("_law_item", 6)]) (by decide +kernel)) (fun _ _ _ _ _ => (pg_name (i := 6) sc__law_right_here.nd rfl (Or.inl rfl))) (fun _ _ _ _ _ => (pts_one (pt_cmpR (k_eq K hr.units) (pe_callD O__law_roll (hr.mono (by decide)) (by rfl) (pa_cons (pv 0) (pa_cons pe_int pa_nil))) pe_int (nomark _)))) (fun _ _ _ _ _ => (pv 6))) pa_nil)))
      (pss_cons (ps_set (i := 5) sc__law_right_here.nd rfl (Or.inr rfl) (pe_callD O__law_closed (hr.mono (by decide)) (by rfl) (pa_cons (pv 1) (pa_cons (pv 4) pa_nil))))
      (pss_one (ps_if (PW.pt (pw_or (pt_cmpR (k_ne K hr.units) (pe_callD O_closed (hr.mono (by decide)) (by rfl) (pa_cons (pv 1) (pa_cons (pv 4) pa_nil))) (pv 5) (nomark _)) (pw_or (pt_cmpR (k_ne K hr.units) (pe_callD O_closed (hr.mono (by decide)) (by rfl) (pa_cons (pv 1) (pa_cons (pv 5) pa_nil))) (pv 5) (nomark _)) (pw_or1 (pt_cmpR (k_ne K hr.units) (pe_lc (own := [("_law_item", 6)]) (g := gName 6) rfl sc__law_right_here.nd (k_seq K (pv 4)) (blkOk_by (N := N__law_right_here) (sc := defScope s__law_right_here) (own := [("_law_item", 6)]) (by decide +kernel)) (fun _ _ _ _ _ => (pg_name (i := 6) sc__law_right_here.nd rfl (Or.inl rfl))) (fun _ _ _ _ _ => (pts_one (pt_cmpR (k_notinT K (hu65 hr)) (pv 6) (pv 5) (by rfl)))) (fun _ _ _ _ _ => (pv 6))) (pe_lst pa_nil) (nomark _)))))) (pss_one (ps_ret pe_bl)) pss_nil)))))
      (pss_one (ps_ret (pe_cmpR (k_eq K hr.units) (pe_callD O_closed (hr.mono (by decide)) (by rfl) (pa_cons (pv 1) (pa_cons (pe_callTy (k_tuple K) (by rfl) T.b_tuple (by decide +kernel) (pa_cons (pv 2) pa_nil)) pa_nil))) (pe_callTy (k_tuple K) (by rfl) T.b_tuple (by decide +kernel) (pa_cons (pv 2) pa_nil)) (nomark _))))))), fun a ds _ hp => ?_⟩
  obtain ⟨g, rfl, V⟩ := hp
  have few := few_allIt V
  have lA : ((allIt g).map pairD).length = (allIt g).length := List.length_map ..
  refine q_setD (d := .list ((allIt g).map pairD)) (ev_fun (ea_cons (ev_var rfl) ea_nil) ⟨g, rfl, V⟩ fun d h => h g rfl) ?_
  refine q_ifNo (b := false) (EvT.is (et_t (ev_op (ev_fun (r := .tuple ((allIt g).map pairD)) (ea_cons (ev_var rfl) ea_nil) ⟨g, rfl, V⟩ fun d h => h g rfl) (ev_cb (ea_cons (ev_var rfl) ea_nil) rl_tuple) (rd_ne (shaped_tup (shaped_pairs _)) (shaped_tup (shaped_pairs _))))) (by rw [eqv_tups]; simp)) rfl ?_
  refine run_seq (N1 := fun δ => ∃ s3 s4 s5 s6, δ = [.adr a, .dat (encG g), .dat (.list ((allIt g).map pairD)), s3, s4, s5, s6]) (run_for (wk_num (n := 4) (ea_cons ev_int ea_nil) (by decide)) fun n item ⟨hn, hi⟩ => ?_) fun δ1 hδ => ?_
  · refine ⟨fun i δ => ∃ s3 s4 s5 s6, δ = [.adr a, .dat (encG g), .dat (.list ((allIt g).map pairD)), s3, s4, s5, s6], ⟨_, _, _, _, rfl⟩, ?_, fun δ' h => h⟩
    rintro i δi hlt ⟨s3, s4, s5, s6, rfl⟩
    refine ⟨_, _, gb_name, ?_⟩
    generalize item i = it
    refine q_set (A := fun d => ∃ S : List Item, d = .tuple (S.map pairD) ∧ S.Sublist (allIt g)) (ev_cbP (A := fun xs => ∃ S : List Item, xs = [.list (S.map pairD)] ∧ S.Sublist (allIt g)) (ea_consP (A := fun d => ∃ S : List Item, d = .list (S.map pairD) ∧ S.Sublist (allIt g))
      (ev_lcP (wk_list (ev_var rfl)) fun q item' ⟨hq, hi'⟩ => ?_) ea_nil fun x xs ⟨S, e, h⟩ e2 => ⟨S, by rw [e, e2], h⟩) fun xs ⟨S, e, h⟩ => ?_) fun d hd => ?_
    · have at_ : ∀ i (h : i < q), item' i = pairD ((allIt g)[i]'(by omega)) := fun i h => by
        rw [hi' i]
        exact getD_of (by rw [List.getElem?_map, List.getElem?_eq_getElem (show i < (allIt g).length by omega)] <;> rfl)
      have tk : ∀ i (h : i < q), (allIt g).take (i + 1) = (allIt g).take i ++ [(allIt g)[i]'(by omega)] := fun i h => by
        rw [List.take_add_one, List.getElem?_eq_getElem (show i < (allIt g).length by omega)] <;> rfl
      exact ⟨Lc.mk (by omega) (fun i acc => ∃ S : List Item, acc = S.map pairD ∧ S.Sublist ((allIt g).take i)) ⟨[], rfl, List.nil_sublist _⟩ [6] (fun _ h => h) (fun i => (wipeD _ [6]).set 6 (.dat (item' i))) (fun i h => gb_name) (fun i k => True) (fun i h => et_roll rfl (by decide) (by decide))
        (fun i d => d = item' i) (fun i h _ => ev_var rfl) (fun i acc d h ⟨S, e1, h1⟩ _ e3 => ⟨S ++ [(allIt g)[i]'(by omega)], by rw [e1, e3, at_ i h, List.map_append] <;> rfl, by rw [tk i h]; exact h1.append (List.Sublist.refl _)⟩)
        (fun i acc h ⟨S, e1, h1⟩ _ => ⟨S, e1, by rw [tk i h]; exact h1.trans (List.sublist_append_left _ _)⟩) fun acc ⟨S, e, h⟩ _ => ⟨S, by rw [e], h.trans (List.take_sublist _ _)⟩⟩
    · subst e
      exact fun M H vs t r' Q q => rl_tuple M H vs t r' Q fun z d H' e' r'' hd => q z d H' e' r'' ⟨S, hd, h⟩
    obtain ⟨S, rfl, hS⟩ := hd
    have hok : ∀ i ∈ S, itemOk g i := fun i hi => mem_allIt.mp (hS.subset hi)
    have hasc : Asc ltP S := List.Pairwise.sublist hS (asc_allIt g)
    have hlen := hS.length_le
    have lS : (S.map pairD).length = S.length := List.length_map ..
    have fewC := clT_few V hok
    refine q_setD (d := .tuple ((clT g S).map pairD)) (ev_fun (ea_cons (ev_var rfl) (ea_cons (ev_var rfl) ea_nil)) ⟨g, S, rfl, V, hok, asc_nodup totP hasc⟩ fun d h => h g S rfl) ?_
    have e3 : ((S.map pairD).filter fun d => !decide (unpair d ∈ clT g S)).map (fun d => d) = [] := by
      rw [List.map_id', List.filter_eq_nil_iff]
      intro d hd
      obtain ⟨p, hp, rfl⟩ := List.mem_map.mp hd
      have : unpair (pairD p) ∈ clT g S := clT_sub p hp
      simp [this]
    refine run_if (B := fun b => b = false) (et_or0 (EvT.is (et_t (ev_op (ev_fun (r := .tuple ((clT g S).map pairD)) (ea_cons (ev_var rfl) (ea_cons (ev_var rfl) ea_nil)) ⟨g, S, rfl, V, hok, hasc, by omega⟩ fun d h => h g S rfl) (ev_var rfl) (rd_ne (shaped_tup (shaped_pairs _)) (shaped_tup (shaped_pairs _))))) (by rw [eqv_tups]; simp))
      (et_or0 (EvT.is (et_t (ev_op (ev_fun (r := .tuple ((clT g (clT g S)).map pairD)) (ea_cons (ev_var rfl) (ea_cons (ev_var rfl) ea_nil)) ⟨g, clT g S, rfl, V, clT_ok hok, asc_clT g S, by omega⟩ fun d h => h g (clT g S) rfl) (ev_var rfl) (rd_ne (shaped_tup (shaped_pairs _)) (shaped_tup (shaped_pairs _))))) (by rw [eqv_tups, clT_again]; simp))
        (EvT.is (et_t (ev_op (Ev.is (ev_lcF (wk_tup (ev_var rfl)) (fun d => !decide (unpair d ∈ clT g S)) (fun d => d) (by omega) (fun d hd => ?_) fun d hd _ => ev_var rfl) (congrArg PyData.list e3)) (ev_lst ea_nil (by simp)) (rd_ne rfl rfl))) rfl))) (fun z => by cases z) fun _ => run_next ⟨_, _, _, _, rfl⟩
    obtain ⟨p, hp, rfl⟩ := List.mem_map.mp hd
    exact et_t (Ev.is (ev_op (ev_var rfl) (ev_var rfl) (rd_notInT (x := pairD p) rfl (shaped_tup (shaped_pairs _)))) (congrArg (fun b => PyData.bool (!b)) (any_pair (clT g S) p)))
  obtain ⟨s3, s4, s5, s6, rfl⟩ := hδ
  exact run_retD (Ev.is (ev_op (ev_fun (r := .tuple ((clT g (allIt g)).map pairD)) (ea_cons (ev_var rfl) (ea_cons (ev_cb (ea_cons (ev_var rfl) ea_nil) rl_tuple) ea_nil)) ⟨g, allIt g, rfl, V, fun i hi => mem_allIt.mp hi, asc_allIt g, by omega⟩ fun d h => h g (allIt g) rfl) (ev_cb (ea_cons (ev_var rfl) ea_nil) rl_tuple) (rd_eq (shaped_tup (shaped_pairs _)) (shaped_tup (shaped_pairs _)))) (by rw [eqv_tups, clT_all]; simp)) rfl
end
end Sh

set_option maxHeartbeats 4000000
/-! Layer f: the cup's making, a list that is appended to. -/
namespace Sh
open PySem PySem.Spec PyProof.Rows L2
section
variable {Pg : Program} {w : World} {K : PySem.W.Frag} {mg : Str → Option Value} {base : Heap}
theorem ok_hand {name : Str} {st : Stmt} {N ps : List Str} {k : Nat} {sp : Sp} (D : Dn K mg name st ps) (S : FnScope N ps (defScope st)) (len : ∀ vs H Q E, sp vs H Q E → vs.length = ps.length)
    (hb : ∀ (f : Addr) (cdv : Value) (A : Around) (outer : List Env) (s : Shared) (H : Hp) (vs : List V) (Q : VK) (E : XK), Room k (A.deeper (envOfC name (defScope st) s.heap.objs.size f cdv)) → sp vs H Q E →
      ∃ t, PSs (cxOf CX0 Pg w K mg base N name (defScope st) f cdv A outer s H E).nox (defBody st) t ∧ t { nx := fun _ H' => Q .non H', rt := Q } (L2.start N vs) H) : Ok Pg w K mg base name ps (k + 1) sp := by
  obtain ⟨f, fd, F, b, m⟩ := D.ex
  refine ⟨f, fd, F.kp, b, m, F.ok S len fun cdv A outer s H vs Q E hr h => ?_⟩
  obtain ⟨t, ht, hrun⟩ := hb f cdv A outer s H vs Q E hr h
  exact ⟨t, PSs.nox ht, hrun⟩
/-- the script in, a cup out -/
def spCup (K : PySem.W.Frag) : Sp := fun vs H Q _ => ∃ (b : Addr) (ns : List Int), vs = [.ref b] ∧ SqL K H b (ns.map V.int) ∧ ns.length ≤ 63 ∧ ∀ (H' : Hp) (p : Addr) (x y : Int), H' p = some (.lst [.int x, .int y]) → 0 ≤ x → 0 ≤ y → y < 1099511627776 → Q (.ref p) H'
theorem emp_wd (H : Hp) : Wd none (fun _ => False) H := ⟨fun _ m => m.elim, fun _ e => (nomatch e), fun _ _ m => m.elim⟩
theorem cell_small (c : Int) : 0 ≤ (c * 277 + 2633) % 2077503161 + 163 ∧ (c * 277 + 2633) % 2077503161 + 163 < 1099511627776 := by
  have h1 := Int.emod_nonneg (c * 277 + 2633) (show (2077503161 : Int) ≠ 0 by decide)
  have h2 := Int.emod_lt_of_pos (c * 277 + 2633) (show (0 : Int) < 2077503161 by decide)
  omega
theorem ok__law_cup (T : Tb K mg) : Ok Pg w K mg base "_law_cup" ["_law_script"] 1 (spCup K) := by
  refine ok_hand (k := 0) T.d__law_cup sc__law_cup (fun vs H Q E h => ?_) fun f cdv A outer s H vs Q E hr h => ⟨_,
    (pss_cons (ps_set (i := 1) sc__law_cup.nd rfl (Or.inl rfl) (pe_callB call_absA (by rfl) T.b_abs (by decide +kernel) (pa_cons (pe_ix (k_ix K) (pe_op op_addA (pe_callTy (k_list K) (by rfl) T.b_list (by decide +kernel) (pa_cons (pv 0) pa_nil)) (pe_lst (pa_cons pe_int pa_nil))) pe_int (fun _ _ => rfl)) pa_nil)))
      (pss_one (ps_ret (pe_lst (pa_cons (pe_ifExp (pt_cmpR (op_ge) (pv 1) (pe_op op_pow pe_int pe_int) (nomark _)) (pe_op op_fdiv (pv 1) pe_int) pe_int) (pa_cons (pe_op op_addA (pe_op op_mod (pe_callTy call_intA (by rfl) T.b_int (by decide +kernel) (pa_cons (pe_op op_addA (pe_op op_mul (pv 1) pe_int) pe_int) pa_nil)) pe_int) pe_int) pa_nil)))))), ?_⟩
  · obtain ⟨b, ns, rfl, _⟩ := h
    rfl
  obtain ⟨b, ns, rfl, hS, hn, q⟩ := h
  -- the list of the script, and a nought behind it
  refine ⟨.ref b, rfl, b, ns.map V.int, rfl, .inl hS, fun l1 e1 => ?_⟩
  refine ⟨big_le (by decide), fun l2 e2 => ?_⟩
  have n12 : l1 ≠ l2 := fun z => by
    rw [← z, upd_same] at e2
    cases e2
  have h1 : (upd (upd H l1 (.lst (ns.map V.int))) l2 (.lst [.int 0])) l1 = some (.lst (ns.map V.int)) := by
    rw [upd_ne n12, upd_same]
  refine .inr ⟨l1, l2, ns.map V.int, [.int 0], rfl, rfl, h1, upd_same, big_le (by rw [List.length_map]; simp; omega), fun l3 e3 => ?_⟩
  obtain ⟨c0, rest, ec⟩ : ∃ c0 rest, ns.map V.int ++ [.int 0] = V.int c0 :: rest := by
    cases ns with
    | nil => exact ⟨0, [], rfl⟩
    | cons n ns => exact ⟨n, _, rfl⟩
  rw [ec]
  refine .inl ⟨l3, _, 0, .int c0, rfl, rfl, SqL.of upd_same, atI0, ?_⟩
  refine ⟨c0, rfl, ?_⟩
  have c00 : 0 ≤ (if c0 < 0 then -c0 else c0) := by
    split <;> omega
  generalize (if c0 < 0 then -c0 else c0) = c at c00
  generalize upd (upd (upd H l1 (.lst (ns.map V.int))) l2 (.lst [.int 0])) l3 (.lst (V.int c0 :: rest)) = H3
  -- the rest by data
  have R : Run none _ [.any, .dat (.int c)] (fun _ => False) (fun d => ∃ x y : Int, d = .list [.int x, .int y] ∧ 0 ≤ x ∧ 0 ≤ y ∧ y < 1099511627776) :=
    run_ret (ev_lstP (B := fun xs => ∃ x y : Int, xs = [.int x, .int y] ∧ 0 ≤ x ∧ 0 ≤ y ∧ y < 1099511627776)
      (ea_consP (A := fun d => ∃ x : Int, d = .int x ∧ 0 ≤ x) (B := fun xs => ∃ y : Int, xs = [.int y] ∧ 0 ≤ y ∧ y < 1099511627776)
        (ev_ifP (B := fun _ => True) (et_any (et_t (ev_op (ev_var (i := 1) rfl) (ev_op (ev_int (n := 10)) (ev_int (n := 18)) (rd_I (C := CPow) (g := fun i j => i ^ j.toNat) ⟨by decide, by decide, by decide⟩)) (rd_cmp (g := fun i j => decide (j ≤ i)))))) (fun _ => Ev.imp (ev_op (ev_var (i := 1) rfl) (ev_int (n := 67)) (rd_I (C := CDiv) (g := fun i j => i / j) ⟨by decide, by decide⟩)) fun d e => ⟨c / 67, e, Int.ediv_nonneg c00 (by decide)⟩) fun _ => Ev.imp (ev_int (n := 0)) fun d e => ⟨0, e, by decide⟩)
        (ea_consP (A := fun d => ∃ y : Int, d = .int y ∧ 0 ≤ y ∧ y < 1099511627776)
          (Ev.imp (ev_op (ev_op (ev_cb (ea_cons (ev_op (ev_op (ev_var (i := 1) rfl) (ev_int (n := 277)) (rd_I (C := CMul) (g := fun i j => i * j) (.inr ⟨by decide, by decide⟩))) (ev_int (n := 2633)) rd_addI) ea_nil) rl_int) (ev_int (n := 2077503161)) (rd_I (C := fun _ j => 0 < j) (g := fun i j => i % j) (by decide))) (ev_int (n := 163)) rd_addI) fun d e => ⟨_, e, cell_small c⟩) ea_nil fun x xs ⟨y, e, h⟩ e2 => ⟨y, by rw [e, e2], h⟩)
        fun x xs ⟨u, e, hu⟩ ⟨y, e2, hy⟩ => ⟨u, y, by rw [e, e2], hu, hy⟩) fun xs ⟨x, y, e, h⟩ => ⟨by rw [e]; simp, x, y, by rw [e], h⟩)
  refine R (fun _ => False) _ H3 (emp_wd H3) ⟨rfl, fun i s' e => ?_⟩ _ (fun σ' δ' H' _ _ _ n => n.elim) fun v d H' _ _ r ⟨x, y, ed, hx, hy, hy2⟩ => ?_
  · match i, e with
    | 0, e =>
      rw [← (Option.some.inj e : Ds.any = s')]
      trivial
    | 1, e =>
      rw [← (Option.some.inj e : Ds.dat (.int c) = s')]
      exact ⟨.int c, rfl, .int c⟩
    | i + 2, e => cases e
  · subst ed
    cases r with
    | lst _ eH sa =>
      cases sa with
      | cons s1 t1 =>
        cases t1 with
        | cons s2 t2 =>
          cases t2
          cases s1
          cases s2
          exact q H' _ x y eH hx hy hy2
end
section
variable {c : Option Addr} {te : TE} {tl : TA} {δ : List Ds} {K K' : PySem.W.Frag} {N : List Ds → Prop} {R : PyData → Prop} {u : TS}
/-- xs = [..]; xs.append(x) -/
theorem q_lstApp {j : Nat} {ds : List PyData} {d : PyData} (h1 : EvL c tl δ ds) (h2 : EvL c te' (δ.set j .any) [d]) (hj : j < δ.length) (hn : ds.length ≤ 1000) (k : Run c u (δ.set j (.dat (.list (ds ++ [d])))) N R) :
    Run c (tSeq (tAsg (tLst tl) (gName j)) (tSeq (tDrop (tBM K "list" rAppend (tVar j) te')) u)) δ N R := fun M σ H w s D q1 q2 => by
  refine h1 M σ H w s _ fun vs ds' H1 e1 w1 r1 ed => ?_
  subst ed
  refine ⟨by rw [r1.length]; exact big_le (by omega), fun p hp => ?_⟩
  have x2 : Ex none H1 (upd H1 p (.lst vs)) := Ex.new hp
  have s1 := s.ex w e1
  have nM : ¬ M p := w1.fresh hp
  have cp : c ≠ some p := fun z => nM (w1.cup p z).1
  have off : ∀ b o, plusM M p b → H1 b = some o → M b := fun b o m e => by
    rcases m with m | m
    · exact m
    · rw [m, hp] at e
      cases e
  have kp : ∀ b o, ¬ M b → H1 b = some o → (upd H1 p (.lst vs)) b = some o := fun b o _ e => ex_none x2 e
  have w2 : Wd c (plusM M p) (upd H1 p (.lst vs)) := by
    have w2' := w1.ex x2
    refine ⟨fun b m => ?_, fun b e => ⟨.inl (w2'.cup b e).1, (w2'.cup b e).2⟩, fun b xs m => ?_⟩
    · rcases m with m | m
      · exact w2'.trk b m
      · rw [m, upd_same]
        exact fun z => nomatch z
    · rcases m with m | m
      · exact w2'.mu b xs m
      · rw [m, upd_same]
        exact fun z => nomatch z
  have s2 : Sl (plusM M p) (upd H1 p (.lst vs)) (σ.set j (some (.ref p))) (δ.set j .any) := (s1.mono off kp).forget
  have r2 : Rps (plusM M p) (upd H1 p (.lst vs)) vs ds' := Rps.mono off kp _ r1
  have gj : (σ.set j (some (V.ref p)))[j]? = some (some (.ref p)) := by
    rw [List.getElem?_set, if_pos rfl, if_pos (by rw [s.1]; exact hj)]
  refine ⟨.ref p, gj, .inl ⟨rfl, _, SqL.of upd_same⟩, ?_⟩
  refine h2 (plusM M p) _ _ w2 s2 _ fun ws es H3 e3 w3 r3 ed => ?_
  subst ed
  cases r3 with
  | cons r3 t3 =>
    cases t3
    have h3 : H3 p = some (.lst vs) := e3 p _ cp upd_same
    refine ⟨p, vs, _, rfl, rfl, h3, big_lt (by rw [r1.length]; omega), ?_⟩
    have mp : plusM M p p := .inr rfl
    have keep : ∀ (o : HO) (b : Addr) (q : HO), ¬ plusM M p b → H3 b = some q → (upd H3 p o) b = some q := fun o b q nb e => by
      rw [upd_ne fun z => nb (by rw [z]; exact mp)]
      exact e
    have sub : ∀ (b : Addr) (o : HO), M b → H3 b = some o → plusM M p b := fun b o m _ => .inl m
    have r4 := (r2.ex w2 e3).append (Rps.one r3)
    refine k M _ _ ⟨fun b m => ?_, fun b e => ?_, fun b xs m => ?_⟩ ⟨by rw [List.length_set, List.length_set]; exact s.1, fun i s' e => ?_⟩ D (fun σ' δ' H' e' => q1 σ' δ' H' ?_) fun v d' H' e' => q2 v d' H' ?_
    · rw [upd_ne fun z => nM (by rw [← z]; exact m)]
      exact w3.trk b (.inl m)
    · obtain ⟨m, hc⟩ := w3.cup b e
      have hb : b ≠ p := fun z => cp (by rw [e, z])
      refine ⟨(w1.cup b e).1, ?_⟩
      rw [upd_ne hb]
      exact hc
    · rw [upd_ne fun z => nM (by rw [← z]; exact m)]
      exact w3.mu b xs (.inl m)
    · rw [List.getElem?_set] at e
      by_cases hij : j = i
      · subst hij
        rw [if_pos rfl, if_pos hj] at e
        rw [← (Option.some.inj e : Ds.dat (.list (ds' ++ [d])) = s')]
        exact ⟨.ref p, gj, .lst nM upd_same (Rps.mono sub (keep _) _ r4)⟩
      · rw [if_neg hij] at e
        have q := (s2.ex w2 e3).2 i s' (by rw [List.getElem?_set, if_neg hij]; exact e)
        exact q.mono sub (keep _)
    all_goals
      refine Ex.trans (fun b o nb e => ?_) e'
      have hb : b ≠ p ∨ b = p := (Classical.em (b = p)).symm
      rcases hb with hb | hb
      · rw [upd_ne hb]
        exact e3 b o nb (ex_none x2 (e1 b o nb e))
      · exfalso
        have q := e1 b o nb e
        rw [hb, hp] at q
        cases q
end
end Sh

set_option maxHeartbeats 4000000
/-! Layer g: the law. -/
namespace Sh
open PySem PySem.Spec PyProof.Rows L2
abbrev RowG : Type := G × List Item × List Item
def encRow (r : RowG) : PyData := .tuple [encG r.1, .tuple (r.2.1.map pairD), .tuple (r.2.2.map pairD)]
def oneG : G := ⟨["a"], "S", [("S", [])]⟩
def rowsL : List RowG :=
  [(againG, [(0, 1)], [(0, 0), (0, 1), (1, 0)]), (againG, [(0, 0)], [(0, 0)]), (againG, [], []), (againG, [(-1, 1)], [(-1, 1)]),
   (partsG, [(-1, 0)], [(-1, 0), (0, 0), (1, 0), (2, 0), (3, 0)]), (partsG, [(0, 2)], [(0, 0), (0, 2), (1, 0), (2, 0), (3, 0)]),
   (partsG, [(0, 3), (2, 0)], [(0, 3), (2, 0)]), (nothingG, [(0, 1)], [(0, 0), (0, 1), (1, 0), (2, 0), (3, 0)]), (nothingG, [(0, 0)], [(0, 0), (2, 0), (3, 0)])]
def chkRow (r : RowG) : Bool := valid r.1 && (r.2.1.all (fun i => decide (itemOk r.1 i)) && (ascB ltP r.2.1 && (decide (r.2.1.length ≤ 700) && decide (clT r.1 r.2.1 = r.2.2))))
theorem rows_ok : ∀ r ∈ rowsL, chkRow r = true := by decide +kernel
theorem again_ok : valid againG = true := by decide +kernel
theorem one_ok : valid oneG = true := by decide +kernel
theorem chkRow_ok {r : RowG} (h : chkRow r = true) : Valid r.1 ∧ (∀ i ∈ r.2.1, itemOk r.1 i) ∧ Asc ltP r.2.1 ∧ r.2.1.length ≤ 700 ∧ clT r.1 r.2.1 = r.2.2 := by
  unfold chkRow at h
  simp only [Bool.and_eq_true, decide_eq_true_eq, List.all_eq_true] at h
  exact ⟨valid_ok h.1, h.2.1, ascB_asc h.2.2.1, h.2.2.2.1, h.2.2.2.2⟩
def un3 : PyData → PyData × PyData × PyData
  | .tuple [x, y, z] => (x, y, z)
  | _ => (.none, .none, .none)
theorem run_go {c : Option Addr} {ts : TS} {δ : List Ds} {N : List Ds → Prop} {R : PyData → Prop} (h : Run c ts δ N R) {M : Addr → Prop} {σ : L2.St} {H : Hp} {D : Ends} (w : Wd c M H) (s : Sl M H σ δ) (q1 : ∀ σ' δ' H', Ex c H H' → Wd c M H' → Sl M H' σ' δ' → N δ' → D.nx σ' H')
    (q2 : ∀ v d H', Ex c H H' → Wd c M H' → Rp M H' v d → R d → D.rt v H') : ts D σ H := h M σ H w s D q1 q2
section
variable {Pg : Program} {w : World} {K : PySem.W.Frag} {mg : Str → Option Value} {base : Heap}
def spLaw (K : PySem.W.Frag) : Sp := fun vs H Q _ => ∃ (b : Addr) (ns : List Int), vs = [.ref b] ∧ SqL K H b (ns.map V.int) ∧ ns.length ≤ 63 ∧ ∀ H', Q (.bl true) H'
theorem law_start {u : TS} {D : Ends} {b : Addr} {ns : List Int} {H : Hp} {rest : L2.St} (hS : SqL K H b (ns.map V.int)) (hn : ns.length ≤ 63)
    (h : ∀ (H1 : Hp) (p : Addr) (x y : Int), H1 p = some (.lst [.int x, .int y]) → 0 ≤ x → 0 ≤ y → y < 1099511627776 → u D ((some (.ref b) :: none :: rest).set 1 (some (.ref p))) H1) :
    tSeq (tAsg (tCall (spCup K) [] E0 (tCons (tVar 0) tNil)) (gName 1)) u D (some (.ref b) :: none :: rest) H :=
  ⟨.ref b, rfl, b, ns, rfl, hS, hn, fun H1 p x y hp hx hy hy2 => h H1 p x y hp hx hy hy2⟩
theorem ev_lcRows {c : Option Addr} {δ : List Ds} {wi : TI} {tt : TT} {te : TE} {i j k : Nat} (W : Wk c wi δ (IsItems (rowsL.map encRow)))
    (hb : ∀ r ∈ rowsL, EvB c tt ((((wipeD δ [i, j, k]).set i (.dat (encG r.1))).set j (.dat (.tuple (r.2.1.map pairD)))).set k (.dat (.tuple (r.2.2.map pairD)))) false) :
    EvD c (tLc wi (gTup K 3 (gCons (gName i) (gCons (gName j) (gCons (gName k) gNil)))) tt te [i, j, k]) δ (.list []) := by
  refine Ev.is (ev_lc W (fun _ => false) (fun _ => .int 1) (fun x => (((wipeD δ [i, j, k]).set i (.dat (un3 x).1)).set j (.dat (un3 x).2.1)).set k (.dat (un3 x).2.2)) [i, j, k] (fun _ h => h) (by decide) (fun x hx => ?_) (fun x hx => ?_) (fun x hx h => nomatch h)) rfl
  · obtain ⟨r, hr, rfl⟩ := List.mem_map.mp hx
    exact gb_tup3 (x := encG r.1) (y := .tuple (r.2.1.map pairD)) (z := .tuple (r.2.2.map pairD))
  · obtain ⟨r, hr, rfl⟩ := List.mem_map.mp hx
    exact hb r hr
theorem fn_hand {f : Addr} {fd : FuncData} {name : Str} {st : Stmt} {N ps : List Str} {k : Nat} {sp : Sp} (F : FunD K name name (defArgs st) (defBody st) (defScope st) [] [] f fd) (S : FnScope N ps (defScope st)) (len : ∀ vs H Q E, sp vs H Q E → vs.length = ps.length)
    (hb : ∀ (cdv : Value) (A : Around) (outer : List Env) (s : Shared) (H : Hp) (vs : List V) (Q : VK) (E : XK), Room k (A.deeper (envOfC name (defScope st) s.heap.objs.size f cdv)) → sp vs H Q E →
      ∃ t, PSs (cxOf CX0 Pg w K mg base N name (defScope st) f cdv A outer s H E).nox (defBody st) t ∧ t { nx := fun _ H' => Q .non H', rt := Q } (L2.start N vs) H) : FnOk Pg w K mg base CX0 (k + 1) f fd ps sp := by
  refine F.ok S len fun cdv A outer s H vs Q E hr h => ?_
  obtain ⟨t, ht, hrun⟩ := hb cdv A outer s H vs Q E hr h
  exact ⟨t, PSs.nox ht, hrun⟩
theorem ok_law (T : Tb K mg) {fa : Addr} {fd : FuncData} (F : FunD K "law" "law" (defArgs s_law) (defBody s_law) (defScope s_law) [] [] fa fd) : FnOk Pg w K mg base CX0 8 fa fd ["_law_script"] (spLaw K) := by
  have O__law_cup := ok__law_cup (Pg := Pg) (w := w) (base := base) T
  have O__law_right_here := ok__law_right_here (Pg := Pg) (w := w) (base := base) T
  have O__law_grammar := ok__law_grammar (Pg := Pg) (w := w) (base := base) T
  have O__law_again := ok__law_again (Pg := Pg) (w := w) (base := base) T
  have O__law_own_two := ok__law_own_two (Pg := Pg) (w := w) (base := base) T
  have O_items_of := ok_items_of (Pg := Pg) (w := w) (base := base) T
  have O_closed := ok_closed (Pg := Pg) (w := w) (base := base) T
  refine fn_hand (k := 7) F sc_law (fun vs H Q E h => ?_) fun cdv A outer s H vs Q E hr h => ⟨_,
    (pss_cons (ps_set (i := 1) sc_law.nd rfl (Or.inl rfl) (pe_callD O__law_cup (hr.mono (by decide)) (by rfl) (pa_cons (pv 0) pa_nil)))
      (pss_cons (ps_for PassesOwn.never rfl (pi_range1 (by rfl) T.b_range (pa_cons pe_int pa_nil)) (pg_name (i := 2) sc_law.nd rfl (Or.inl rfl)) (pss_one (ps_if (pt_not (pt_val (pe_callD O__law_right_here (hr.mono (by decide)) (by rfl) (pa_cons (pv 1) (pa_cons (pe_callD O__law_grammar (hr.mono (by decide)) (by rfl) (pa_cons (pv 1) pa_nil)) pa_nil))))) (pss_one (ps_ret pe_bl)) pss_nil)))
      (pss_cons (ps_par3 (i := 3) (j := 4) (l := 5) rfl sc_law.nd rfl rfl rfl (by decide) (by decide) (by decide) rfl rfl rfl (pa_cons (pe_callD0 O__law_again (hr.mono (by decide)) (by rfl)) (pa_cons (pe_ix (k_ix K) (pe_callD0 O__law_own_two (hr.mono (by decide)) (by rfl)) pe_int (fun _ _ => rfl)) (pa_cons (pe_ix (k_ix K) (pe_callD0 O__law_own_two (hr.mono (by decide)) (by rfl)) pe_int (fun _ _ => rfl)) pa_nil))) (by rfl))
      (pss_cons (ps_if (PW.pt (pw_or (pt_cmpR (k_ne K hr.units) (pe_callD O_items_of (hr.mono (by decide)) (by rfl) (pa_cons (pv 3) pa_nil)) (pe_tup (pa_cons (pe_tup (pa_cons (pe_un un_neg pe_int) (pa_cons pe_int pa_nil))) (pa_cons (pe_tup (pa_cons (pe_un un_neg pe_int) (pa_cons pe_int pa_nil))) (pa_cons (pe_tup (pa_cons pe_int (pa_cons pe_int pa_nil))) (pa_cons (pe_tup (pa_cons pe_int (pa_cons pe_int pa_nil))) (pa_cons (pe_tup (pa_cons pe_int (pa_cons pe_int pa_nil))) (pa_cons (pe_tup (pa_cons pe_int (pa_cons pe_int pa_nil))) (pa_cons (pe_tup (pa_cons pe_int (pa_cons pe_int pa_nil))) pa_nil)))))))) (nomark _)) (pw_or1 (pt_cmpR (k_ne K hr.units) (pe_callD O_items_of (hr.mono (by decide)) (by rfl) (pa_cons (pe_tup (pa_cons (pe_tup (pa_cons pe_str pa_nil)) (pa_cons pe_str (pa_cons (pe_tup (pa_cons (pe_tup (pa_cons pe_str (pa_cons (pe_tup pa_nil) pa_nil))) pa_nil)) pa_nil)))) pa_nil)) (pe_tup (pa_cons (pe_tup (pa_cons (pe_un un_neg pe_int) (pa_cons pe_int pa_nil))) (pa_cons (pe_tup (pa_cons (pe_un un_neg pe_int) (pa_cons pe_int pa_nil))) (pa_cons (pe_tup (pa_cons pe_int (pa_cons pe_int pa_nil))) pa_nil)))) (nomark _))))) (pss_one (ps_ret pe_bl)) pss_nil)
      (pss_cons (ps_set (i := 6) sc_law.nd rfl (Or.inl rfl) (pe_lst (pa_cons (pe_tup (pa_cons (pv 3) (pa_cons (pe_tup (pa_cons (pe_tup (pa_cons pe_int (pa_cons pe_int pa_nil))) pa_nil)) (pa_cons (pe_tup (pa_cons (pe_tup (pa_cons pe_int (pa_cons pe_int pa_nil))) (pa_cons (pe_tup (pa_cons pe_int (pa_cons pe_int pa_nil))) (pa_cons (pe_tup (pa_cons pe_int (pa_cons pe_int pa_nil))) pa_nil)))) pa_nil)))) (pa_cons (pe_tup (pa_cons (pv 3) (pa_cons (pe_tup (pa_cons (pe_tup (pa_cons pe_int (pa_cons pe_int pa_nil))) pa_nil)) (pa_cons (pe_tup (pa_cons (pe_tup (pa_cons pe_int (pa_cons pe_int pa_nil))) pa_nil)) pa_nil)))) (pa_cons (pe_tup (pa_cons (pv 3) (pa_cons (pe_tup pa_nil) (pa_cons (pe_tup pa_nil) pa_nil)))) (pa_cons (pe_tup (pa_cons (pv 3) (pa_cons (pe_tup (pa_cons (pe_tup (pa_cons (pe_un un_neg pe_int) (pa_cons pe_int pa_nil))) pa_nil)) (pa_cons (pe_tup (pa_cons (pe_tup (pa_cons (pe_un un_neg pe_int) (pa_cons pe_int pa_nil))) pa_nil)) pa_nil)))) pa_nil))))))
      (pss_cons (ps_expr (pe_bm PySem.F.plainAttrs_list PySem.F.slot_list_append PySem.F.type_list_append mt_append (pv 6) (pa_cons (pe_tup (pa_cons (pv 4) (pa_cons (pe_tup (pa_cons (pe_tup (pa_cons (pe_un un_neg pe_int) (pa_cons pe_int pa_nil))) pa_nil)) (pa_cons (pe_tup (pa_cons (pe_tup (pa_cons (pe_un un_neg pe_int) (pa_cons pe_int pa_nil))) (pa_cons (pe_tup (pa_cons pe_int (pa_cons pe_int pa_nil))) (pa_cons (pe_tup (pa_cons pe_int (pa_cons pe_int pa_nil))) (pa_cons (pe_tup (pa_cons pe_int (pa_cons pe_int pa_nil))) (pa_cons (pe_tup (pa_cons pe_int (pa_cons pe_int pa_nil))) pa_nil)))))) pa_nil)))) pa_nil)))
      (pss_cons (ps_set (i := 6) sc_law.nd rfl (Or.inl rfl) (pe_op op_addA (pv 6) (pe_lst (pa_cons (pe_tup (pa_cons (pv 4) (pa_cons (pe_tup (pa_cons (pe_tup (pa_cons pe_int (pa_cons pe_int pa_nil))) pa_nil)) (pa_cons (pe_tup (pa_cons (pe_tup (pa_cons pe_int (pa_cons pe_int pa_nil))) (pa_cons (pe_tup (pa_cons pe_int (pa_cons pe_int pa_nil))) (pa_cons (pe_tup (pa_cons pe_int (pa_cons pe_int pa_nil))) (pa_cons (pe_tup (pa_cons pe_int (pa_cons pe_int pa_nil))) (pa_cons (pe_tup (pa_cons pe_int (pa_cons pe_int pa_nil))) pa_nil)))))) pa_nil)))) pa_nil))))
      (pss_cons (ps_set (i := 6) sc_law.nd rfl (Or.inl rfl) (pe_op op_addA (pv 6) (pe_lst (pa_cons (pe_tup (pa_cons (pv 4) (pa_cons (pe_tup (pa_cons (pe_tup (pa_cons pe_int (pa_cons pe_int pa_nil))) (pa_cons (pe_tup (pa_cons pe_int (pa_cons pe_int pa_nil))) pa_nil))) (pa_cons (pe_tup (pa_cons (pe_tup (pa_cons pe_int (pa_cons pe_int pa_nil))) (pa_cons (pe_tup (pa_cons pe_int (pa_cons pe_int pa_nil))) pa_nil))) pa_nil)))) (pa_cons (pe_tup (pa_cons (pv 5) (pa_cons (pe_tup (pa_cons (pe_tup (pa_cons pe_int (pa_cons pe_int pa_nil))) pa_nil)) (pa_cons (pe_tup (pa_cons (pe_tup (pa_cons pe_int (pa_cons pe_int pa_nil))) (pa_cons (pe_tup (pa_cons pe_int (pa_cons pe_int pa_nil))) (pa_cons (pe_tup (pa_cons pe_int (pa_cons pe_int pa_nil))) (pa_cons (pe_tup (pa_cons pe_int (pa_cons pe_int pa_nil))) (pa_cons (pe_tup (pa_cons pe_int (pa_cons pe_int pa_nil))) pa_nil)))))) pa_nil)))) (pa_cons (pe_tup (pa_cons (pv 5) (pa_cons (pe_tup (pa_cons (pe_tup (pa_cons pe_int (pa_cons pe_int pa_nil))) pa_nil)) (pa_cons (pe_tup (pa_cons (pe_tup (pa_cons pe_int (pa_cons pe_int pa_nil))) (pa_cons (pe_tup (pa_cons pe_int (pa_cons pe_int pa_nil))) (pa_cons (pe_tup (pa_cons pe_int (pa_cons pe_int pa_nil))) pa_nil)))) pa_nil)))) pa_nil))))))
      (pss_one (ps_ret (pe_cmpR (k_eq K hr.units) (pe_lc (own := [("_law_grammar_here", 7), ("_law_items", 8), ("_law_due", 9)]) (g := gTup K 3 (gCons (gName 7) (gCons (gName 8) (gCons (gName 9) gNil)))) rfl sc_law.nd (k_seq K (pv 6)) (blkOk_by (N := N_law) (sc := defScope s_law) (own := [("_law_grammar_here", 7), ("_law_items", 8), ("_law_due", 9)]) (by decide +kernel)) (fun _ _ _ _ _ => (pg_tup rfl (pgs_cons (pg_name (i := 7) sc_law.nd rfl (Or.inl rfl)) (pgs_cons (pg_name (i := 8) sc_law.nd rfl (Or.inl rfl)) (pgs_cons (pg_name (i := 9) sc_law.nd rfl (Or.inl rfl)) pgs_nil))))) (fun _ _ _ _ _ => (pts_one (pt_cmpR (k_ne K hr.units) (pe_callD O_closed (hr.mono (by decide)) (by rfl) (pa_cons (pv 7) (pa_cons (pv 8) pa_nil))) (pv 9) (nomark _)))) (fun _ _ _ _ _ => pe_int)) (pe_lst pa_nil) (nomark _)))))))))))), ?_⟩
  · obtain ⟨b, ns, rfl, _⟩ := h
    rfl
  obtain ⟨b, ns, rfl, hS, hn, q⟩ := h
  refine law_start hS hn fun H1 p x y hp hx hy hy2 => ?_
  have wd : Wd (some p) (fun z => z = p) H1 := ⟨fun z m => by rw [m, hp]; exact fun e => (nomatch e), fun z e => ⟨(Option.some.inj e).symm, x, y, by rw [← Option.some.inj e]; exact hp, hx, hy, hy2⟩, fun z xs m => by rw [m, hp]; exact fun e => (nomatch e)⟩
  refine run_go (c := some p) (δ := [.any, .adr p, .any, .any, .any, .any, .any, .any, .any, .any]) (N := fun _ => False) (R := fun d => d = .bool true) (M := fun z => z = p) ?_ wd ⟨rfl, fun i s' e => ?_⟩ (fun σ' δ' H' _ _ _ n => n.elim) fun v d H' _ _ r ed => ?_
  · refine run_seq (N1 := fun δ => ∃ s2, δ = [.any, .adr p, s2, .any, .any, .any, .any, .any, .any, .any]) (run_for (wk_num (n := 3) (ea_cons ev_int ea_nil) (by decide)) fun n item ⟨hn, hi⟩ => ?_) fun δ1 hδ => ?_
    · refine ⟨fun i δ => ∃ s2, δ = [.any, .adr p, s2, .any, .any, .any, .any, .any, .any, .any], ⟨_, rfl⟩, ?_, fun δ' h => h⟩
      rintro i δi hlt ⟨s2, rfl⟩
      refine ⟨_, _, gb_name, ?_⟩
      refine run_if (B := fun b => b = false) (et_notB (b := true) (et_b (ev_callG (A := fun ds => ∃ g, ds = [encG g] ∧ Valid g) rfl (ea_consP (A := fun d => ∃ g, d = encG g ∧ Valid g) (ev_maker rfl) ea_nil fun x xs ⟨g, e, v⟩ e2 => ⟨g, by rw [e, e2], v⟩) (fun ds ⟨g, e, v⟩ => ⟨by rw [e] <;> rfl, g, e, v⟩) fun ds d _ hd => hd))) (fun z => by cases z) fun _ => run_next ⟨_, rfl⟩
    · obtain ⟨s2, rfl⟩ := hδ
      have two : @EvD (some p) (tCall spOwnTwo [] E0 tNil) [.any, .adr p, s2, .any, .any, .any, .any, .any, .any, .any] (.tuple [encG partsG, encG nothingG]) := ev_call ea_nil rfl trivial fun d h => h
      refine run_seq (N1 := fun δ => δ = [.any, .adr p, s2, .dat (encG againG), .dat (encG partsG), .dat (encG nothingG), .any, .any, .any, .any]) (run_par3 (x := encG againG) (y := encG partsG) (z := encG nothingG) (ea_cons (ev_call ea_nil rfl trivial fun d h => h) (ea_cons (ev_op two ev_int (rd_ixT atI0)) (ea_cons (ev_op two ev_int (rd_ixT atI1)) ea_nil))) rfl) ?_
      rintro δ2 rfl
      refine q_ifNo (b := false) (et_or0 (EvT.is (et_t (ev_op (ev_fun (r := .tuple ((allIt againG).map pairD)) (ea_cons (ev_var rfl) ea_nil) ⟨againG, rfl, valid_ok again_ok⟩ fun d h => h againG rfl) (ev_tup (ea_cons (ev_tup (ea_cons (ev_un ev_int rd_neg) (ea_cons ev_int ea_nil)) (by first | (simp; done) | decide)) (ea_cons (ev_tup (ea_cons (ev_un ev_int rd_neg) (ea_cons ev_int ea_nil)) (by first | (simp; done) | decide)) (ea_cons (ev_tup (ea_cons ev_int (ea_cons ev_int ea_nil)) (by first | (simp; done) | decide)) (ea_cons (ev_tup (ea_cons ev_int (ea_cons ev_int ea_nil)) (by first | (simp; done) | decide)) (ea_cons (ev_tup (ea_cons ev_int (ea_cons ev_int ea_nil)) (by first | (simp; done) | decide)) (ea_cons (ev_tup (ea_cons ev_int (ea_cons ev_int ea_nil)) (by first | (simp; done) | decide)) (ea_cons (ev_tup (ea_cons ev_int (ea_cons ev_int ea_nil)) (by first | (simp; done) | decide)) ea_nil))))))) (by first | (simp; done) | decide)) (rd_ne (by decide +kernel) (by decide +kernel)))) (by decide +kernel))
        (EvT.is (et_t (ev_op (ev_fun (r := .tuple ((allIt oneG).map pairD)) (ea_cons (ev_tup (ea_cons (ev_tup (ea_cons ev_str ea_nil) (by first | (simp; done) | decide)) (ea_cons ev_str (ea_cons (ev_tup (ea_cons (ev_tup (ea_cons ev_str (ea_cons (ev_tup ea_nil (by first | (simp; done) | decide)) ea_nil)) (by first | (simp; done) | decide)) ea_nil) (by first | (simp; done) | decide)) ea_nil))) (by first | (simp; done) | decide)) ea_nil) ⟨oneG, rfl, valid_ok one_ok⟩ fun d h => h oneG rfl) (ev_tup (ea_cons (ev_tup (ea_cons (ev_un ev_int rd_neg) (ea_cons ev_int ea_nil)) (by first | (simp; done) | decide)) (ea_cons (ev_tup (ea_cons (ev_un ev_int rd_neg) (ea_cons ev_int ea_nil)) (by first | (simp; done) | decide)) (ea_cons (ev_tup (ea_cons ev_int (ea_cons ev_int ea_nil)) (by first | (simp; done) | decide)) ea_nil))) (by first | (simp; done) | decide)) (rd_ne (by decide +kernel) (by decide +kernel)))) (by decide +kernel))) rfl ?_
      refine q_lstApp (j := 6) (ea_cons (ev_tup (ea_cons (ev_var rfl) (ea_cons (ev_tup (ea_cons (ev_tup (ea_cons ev_int (ea_cons ev_int ea_nil)) (by first | (simp; done) | decide)) ea_nil) (by first | (simp; done) | decide)) (ea_cons (ev_tup (ea_cons (ev_tup (ea_cons ev_int (ea_cons ev_int ea_nil)) (by first | (simp; done) | decide)) (ea_cons (ev_tup (ea_cons ev_int (ea_cons ev_int ea_nil)) (by first | (simp; done) | decide)) (ea_cons (ev_tup (ea_cons ev_int (ea_cons ev_int ea_nil)) (by first | (simp; done) | decide)) ea_nil))) (by first | (simp; done) | decide)) ea_nil))) (by first | (simp; done) | decide)) (ea_cons (ev_tup (ea_cons (ev_var rfl) (ea_cons (ev_tup (ea_cons (ev_tup (ea_cons ev_int (ea_cons ev_int ea_nil)) (by first | (simp; done) | decide)) ea_nil) (by first | (simp; done) | decide)) (ea_cons (ev_tup (ea_cons (ev_tup (ea_cons ev_int (ea_cons ev_int ea_nil)) (by first | (simp; done) | decide)) ea_nil) (by first | (simp; done) | decide)) ea_nil))) (by first | (simp; done) | decide)) (ea_cons (ev_tup (ea_cons (ev_var rfl) (ea_cons (ev_tup ea_nil (by first | (simp; done) | decide)) (ea_cons (ev_tup ea_nil (by first | (simp; done) | decide)) ea_nil))) (by first | (simp; done) | decide)) (ea_cons (ev_tup (ea_cons (ev_var rfl) (ea_cons (ev_tup (ea_cons (ev_tup (ea_cons (ev_un ev_int rd_neg) (ea_cons ev_int ea_nil)) (by first | (simp; done) | decide)) ea_nil) (by first | (simp; done) | decide)) (ea_cons (ev_tup (ea_cons (ev_tup (ea_cons (ev_un ev_int rd_neg) (ea_cons ev_int ea_nil)) (by first | (simp; done) | decide)) ea_nil) (by first | (simp; done) | decide)) ea_nil))) (by first | (simp; done) | decide)) ea_nil)))) (ea_cons (ev_tup (ea_cons (ev_var rfl) (ea_cons (ev_tup (ea_cons (ev_tup (ea_cons (ev_un ev_int rd_neg) (ea_cons ev_int ea_nil)) (by first | (simp; done) | decide)) ea_nil) (by first | (simp; done) | decide)) (ea_cons (ev_tup (ea_cons (ev_tup (ea_cons (ev_un ev_int rd_neg) (ea_cons ev_int ea_nil)) (by first | (simp; done) | decide)) (ea_cons (ev_tup (ea_cons ev_int (ea_cons ev_int ea_nil)) (by first | (simp; done) | decide)) (ea_cons (ev_tup (ea_cons ev_int (ea_cons ev_int ea_nil)) (by first | (simp; done) | decide)) (ea_cons (ev_tup (ea_cons ev_int (ea_cons ev_int ea_nil)) (by first | (simp; done) | decide)) (ea_cons (ev_tup (ea_cons ev_int (ea_cons ev_int ea_nil)) (by first | (simp; done) | decide)) ea_nil))))) (by first | (simp; done) | decide)) ea_nil))) (by first | (simp; done) | decide)) ea_nil) (show 6 < 10 by decide) (by simp) ?_
      refine q_setD (ev_op (ev_var rfl) (ev_lst (ea_cons (ev_tup (ea_cons (ev_var rfl) (ea_cons (ev_tup (ea_cons (ev_tup (ea_cons ev_int (ea_cons ev_int ea_nil)) (by first | (simp; done) | decide)) ea_nil) (by first | (simp; done) | decide)) (ea_cons (ev_tup (ea_cons (ev_tup (ea_cons ev_int (ea_cons ev_int ea_nil)) (by first | (simp; done) | decide)) (ea_cons (ev_tup (ea_cons ev_int (ea_cons ev_int ea_nil)) (by first | (simp; done) | decide)) (ea_cons (ev_tup (ea_cons ev_int (ea_cons ev_int ea_nil)) (by first | (simp; done) | decide)) (ea_cons (ev_tup (ea_cons ev_int (ea_cons ev_int ea_nil)) (by first | (simp; done) | decide)) (ea_cons (ev_tup (ea_cons ev_int (ea_cons ev_int ea_nil)) (by first | (simp; done) | decide)) ea_nil))))) (by first | (simp; done) | decide)) ea_nil))) (by first | (simp; done) | decide)) ea_nil) (by first | (simp; done) | decide)) (rd_addL (by simp))) ?_
      refine q_setD (ev_op (ev_var rfl) (ev_lst (ea_cons (ev_tup (ea_cons (ev_var rfl) (ea_cons (ev_tup (ea_cons (ev_tup (ea_cons ev_int (ea_cons ev_int ea_nil)) (by first | (simp; done) | decide)) (ea_cons (ev_tup (ea_cons ev_int (ea_cons ev_int ea_nil)) (by first | (simp; done) | decide)) ea_nil)) (by first | (simp; done) | decide)) (ea_cons (ev_tup (ea_cons (ev_tup (ea_cons ev_int (ea_cons ev_int ea_nil)) (by first | (simp; done) | decide)) (ea_cons (ev_tup (ea_cons ev_int (ea_cons ev_int ea_nil)) (by first | (simp; done) | decide)) ea_nil)) (by first | (simp; done) | decide)) ea_nil))) (by first | (simp; done) | decide)) (ea_cons (ev_tup (ea_cons (ev_var rfl) (ea_cons (ev_tup (ea_cons (ev_tup (ea_cons ev_int (ea_cons ev_int ea_nil)) (by first | (simp; done) | decide)) ea_nil) (by first | (simp; done) | decide)) (ea_cons (ev_tup (ea_cons (ev_tup (ea_cons ev_int (ea_cons ev_int ea_nil)) (by first | (simp; done) | decide)) (ea_cons (ev_tup (ea_cons ev_int (ea_cons ev_int ea_nil)) (by first | (simp; done) | decide)) (ea_cons (ev_tup (ea_cons ev_int (ea_cons ev_int ea_nil)) (by first | (simp; done) | decide)) (ea_cons (ev_tup (ea_cons ev_int (ea_cons ev_int ea_nil)) (by first | (simp; done) | decide)) (ea_cons (ev_tup (ea_cons ev_int (ea_cons ev_int ea_nil)) (by first | (simp; done) | decide)) ea_nil))))) (by first | (simp; done) | decide)) ea_nil))) (by first | (simp; done) | decide)) (ea_cons (ev_tup (ea_cons (ev_var rfl) (ea_cons (ev_tup (ea_cons (ev_tup (ea_cons ev_int (ea_cons ev_int ea_nil)) (by first | (simp; done) | decide)) ea_nil) (by first | (simp; done) | decide)) (ea_cons (ev_tup (ea_cons (ev_tup (ea_cons ev_int (ea_cons ev_int ea_nil)) (by first | (simp; done) | decide)) (ea_cons (ev_tup (ea_cons ev_int (ea_cons ev_int ea_nil)) (by first | (simp; done) | decide)) (ea_cons (ev_tup (ea_cons ev_int (ea_cons ev_int ea_nil)) (by first | (simp; done) | decide)) ea_nil))) (by first | (simp; done) | decide)) ea_nil))) (by first | (simp; done) | decide)) ea_nil))) (by first | (simp; done) | decide)) (rd_addL (by simp))) ?_
      refine run_retD (d := .bool true) ?_ rfl
      refine Ev.is (ev_op (ev_lcRows (wk_list (Ev.is (ev_var rfl) (by kernel_rfl))) fun r hr => ?_) (ev_lst ea_nil (by simp)) (rd_eq rfl rfl)) (by rfl)
      obtain ⟨V, hok, hasc, hlen, e⟩ := chkRow_ok (rows_ok r hr)
      exact et_t (Ev.is (ev_op (ev_fun (r := .tuple ((clT r.1 r.2.1).map pairD)) (ea_cons (ev_var rfl) (ea_cons (ev_var rfl) ea_nil)) ⟨r.1, r.2.1, rfl, V, hok, hasc, hlen⟩ fun d h => h r.1 r.2.1 rfl) (ev_var (d := .tuple (r.2.2.map pairD)) rfl) (rd_ne (shaped_tup (shaped_pairs _)) (shaped_tup (shaped_pairs _)))) (by rw [eqv_tups, e]; simp))
  · match i, e with
    | 1, e =>
      rw [← (Option.some.inj e : Ds.adr p = s')]
      rfl
    | 0, e | 2, e | 3, e | 4, e | 5, e | 6, e | 7, e | 8, e | 9, e =>
      rw [← (Option.some.inj e : Ds.any = s')]
      trivial
    | i + 10, e => cases e
  · subst ed
    cases r
    exact q H'
end
end Sh

set_option maxHeartbeats 0
/-! Layer Hd: the head. -/
namespace Sh
open PySem PySem.Spec PyProof.Rows L2
def d_is_whole : He.DefD := ⟨("is_whole", none), "is_whole", "is_whole", defArgs s_is_whole, defBody s_is_whole, defScope s_is_whole, [], []⟩
def d_is_tuple_of : He.DefD := ⟨("is_tuple_of", none), "is_tuple_of", "is_tuple_of", defArgs s_is_tuple_of, defBody s_is_tuple_of, defScope s_is_tuple_of, [], []⟩
def d_is_name : He.DefD := ⟨("is_name", none), "is_name", "is_name", defArgs s_is_name, defBody s_is_name, defScope s_is_name, [], []⟩
def d_is_terminal_name : He.DefD := ⟨("is_terminal_name", none), "is_terminal_name", "is_terminal_name", defArgs s_is_terminal_name, defBody s_is_terminal_name, defScope s_is_terminal_name, [], []⟩
def d_is_nonterminal_name : He.DefD := ⟨("is_nonterminal_name", none), "is_nonterminal_name", "is_nonterminal_name", defArgs s_is_nonterminal_name, defBody s_is_nonterminal_name, defScope s_is_nonterminal_name, [], []⟩
def d_ascends : He.DefD := ⟨("ascends", none), "ascends", "ascends", defArgs s_ascends, defBody s_ascends, defScope s_ascends, [], []⟩
def d_lefts_of : He.DefD := ⟨("lefts_of", none), "lefts_of", "lefts_of", defArgs s_lefts_of, defBody s_lefts_of, defScope s_lefts_of, [], []⟩
def d_fits_rule : He.DefD := ⟨("fits_rule", none), "fits_rule", "fits_rule", defArgs s_fits_rule, defBody s_fits_rule, defScope s_fits_rule, [], []⟩
def d_fits_grammar : He.DefD := ⟨("fits_grammar", none), "fits_grammar", "fits_grammar", defArgs s_fits_grammar, defBody s_fits_grammar, defScope s_fits_grammar, [], []⟩
def d_rules_for : He.DefD := ⟨("rules_for", none), "rules_for", "rules_for", defArgs s_rules_for, defBody s_rules_for, defScope s_rules_for, [], []⟩
def d_need_grammar : He.DefD := ⟨("need_grammar", none), "need_grammar", "need_grammar", defArgs s_need_grammar, defBody s_need_grammar, defScope s_need_grammar, [], []⟩
def d_right_of : He.DefD := ⟨("right_of", none), "right_of", "right_of", defArgs s_right_of, defBody s_right_of, defScope s_right_of, [], []⟩
def d_symbol_behind : He.DefD := ⟨("symbol_behind", none), "symbol_behind", "symbol_behind", defArgs s_symbol_behind, defBody s_symbol_behind, defScope s_symbol_behind, [], []⟩
def d_fits_item : He.DefD := ⟨("fits_item", none), "fits_item", "fits_item", defArgs s_fits_item, defBody s_fits_item, defScope s_fits_item, [], []⟩
def d_fits_items : He.DefD := ⟨("fits_items", none), "fits_items", "fits_items", defArgs s_fits_items, defBody s_fits_items, defScope s_fits_items, [], []⟩
def d_all_items : He.DefD := ⟨("all_items", none), "all_items", "all_items", defArgs s_all_items, defBody s_all_items, defScope s_all_items, [], []⟩
def d_closed_by : He.DefD := ⟨("closed_by", none), "closed_by", "closed_by", defArgs s_closed_by, defBody s_closed_by, defScope s_closed_by, [], []⟩
def d_need_items : He.DefD := ⟨("need_items", none), "need_items", "need_items", defArgs s_need_items, defBody s_need_items, defScope s_need_items, [], []⟩
def d_items_of : He.DefD := ⟨("items_of", none), "items_of", "items_of", defArgs s_items_of, defBody s_items_of, defScope s_items_of, [], []⟩
def d_closed : He.DefD := ⟨("closed", none), "closed", "closed", defArgs s_closed, defBody s_closed, defScope s_closed, [], []⟩
def d__law_cup : He.DefD := ⟨("_law_cup", none), "_law_cup", "_law_cup", defArgs s__law_cup, defBody s__law_cup, defScope s__law_cup, [], []⟩
def d__law_roll : He.DefD := ⟨("_law_roll", none), "_law_roll", "_law_roll", defArgs s__law_roll, defBody s__law_roll, defScope s__law_roll, [], []⟩
def d__law_some : He.DefD := ⟨("_law_some", none), "_law_some", "_law_some", defArgs s__law_some, defBody s__law_some, defScope s__law_some, [], []⟩
def d__law_right : He.DefD := ⟨("_law_right", none), "_law_right", "_law_right", defArgs s__law_right, defBody s__law_right, defScope s__law_right, [], []⟩
def d__law_all_items : He.DefD := ⟨("_law_all_items", none), "_law_all_items", "_law_all_items", defArgs s__law_all_items, defBody s__law_all_items, defScope s__law_all_items, [], []⟩
def d__law_behind : He.DefD := ⟨("_law_behind", none), "_law_behind", "_law_behind", defArgs s__law_behind, defBody s__law_behind, defScope s__law_behind, [], []⟩
def d__law_closed : He.DefD := ⟨("_law_closed", none), "_law_closed", "_law_closed", defArgs s__law_closed, defBody s__law_closed, defScope s__law_closed, [], []⟩
def d__law_named : He.DefD := ⟨("_law_named", none), "_law_named", "_law_named", defArgs s__law_named, defBody s__law_named, defScope s__law_named, [], []⟩
def d__law_over : He.DefD := ⟨("_law_over", none), "_law_over", "_law_over", defArgs s__law_over, defBody s__law_over, defScope s__law_over, [], []⟩
def d__law_list_grammar : He.DefD := ⟨("_law_list_grammar", none), "_law_list_grammar", "_law_list_grammar", defArgs s__law_list_grammar, defBody s__law_list_grammar, defScope s__law_list_grammar, [], []⟩
def d__law_nest_grammar : He.DefD := ⟨("_law_nest_grammar", none), "_law_nest_grammar", "_law_nest_grammar", defArgs s__law_nest_grammar, defBody s__law_nest_grammar, defScope s__law_nest_grammar, [], []⟩
def d__law_level_grammar : He.DefD := ⟨("_law_level_grammar", none), "_law_level_grammar", "_law_level_grammar", defArgs s__law_level_grammar, defBody s__law_level_grammar, defScope s__law_level_grammar, [], []⟩
def d__law_two_sided_grammar : He.DefD := ⟨("_law_two_sided_grammar", none), "_law_two_sided_grammar", "_law_two_sided_grammar", defArgs s__law_two_sided_grammar, defBody s__law_two_sided_grammar, defScope s__law_two_sided_grammar, [], []⟩
def d__law_mirror_grammar : He.DefD := ⟨("_law_mirror_grammar", none), "_law_mirror_grammar", "_law_mirror_grammar", defArgs s__law_mirror_grammar, defBody s__law_mirror_grammar, defScope s__law_mirror_grammar, [], []⟩
def d__law_near_grammar : He.DefD := ⟨("_law_near_grammar", none), "_law_near_grammar", "_law_near_grammar", defArgs s__law_near_grammar, defBody s__law_near_grammar, defScope s__law_near_grammar, [], []⟩
def d__law_far_grammar : He.DefD := ⟨("_law_far_grammar", none), "_law_far_grammar", "_law_far_grammar", defArgs s__law_far_grammar, defBody s__law_far_grammar, defScope s__law_far_grammar, [], []⟩
def d__law_odd_grammar : He.DefD := ⟨("_law_odd_grammar", none), "_law_odd_grammar", "_law_odd_grammar", defArgs s__law_odd_grammar, defBody s__law_odd_grammar, defScope s__law_odd_grammar, [], []⟩
def d__law_known_grammar : He.DefD := ⟨("_law_known_grammar", none), "_law_known_grammar", "_law_known_grammar", defArgs s__law_known_grammar, defBody s__law_known_grammar, defScope s__law_known_grammar, [], []⟩
def d__law_random_grammar : He.DefD := ⟨("_law_random_grammar", none), "_law_random_grammar", "_law_random_grammar", defArgs s__law_random_grammar, defBody s__law_random_grammar, defScope s__law_random_grammar, [], []⟩
def d__law_grammar : He.DefD := ⟨("_law_grammar", none), "_law_grammar", "_law_grammar", defArgs s__law_grammar, defBody s__law_grammar, defScope s__law_grammar, [], []⟩
def d__law_again : He.DefD := ⟨("_law_again", none), "_law_again", "_law_again", defArgs s__law_again, defBody s__law_again, defScope s__law_again, [], []⟩
def d__law_own_two : He.DefD := ⟨("_law_own_two", none), "_law_own_two", "_law_own_two", defArgs s__law_own_two, defBody s__law_own_two, defScope s__law_own_two, [], []⟩
def d__law_right_here : He.DefD := ⟨("_law_right_here", none), "_law_right_here", "_law_right_here", defArgs s__law_right_here, defBody s__law_right_here, defScope s__law_right_here, [], []⟩
def d_law : He.DefD := ⟨("law", none), "law", "law", defArgs s_law, defBody s_law, defScope s_law, [], []⟩
def fn : List He.DefD := ([d_is_whole, d_is_tuple_of, d_is_name, d_is_terminal_name, d_is_nonterminal_name, d_ascends, d_lefts_of, d_fits_rule, d_fits_grammar, d_rules_for, d_need_grammar, d_right_of, d_symbol_behind, d_fits_item, d_fits_items, d_all_items, d_closed_by, d_need_items, d_items_of, d_closed] : List He.DefD) ++ ([d__law_cup, d__law_roll, d__law_some, d__law_right, d__law_all_items, d__law_behind, d__law_closed, d__law_named, d__law_over, d__law_list_grammar, d__law_nest_grammar, d__law_level_grammar, d__law_two_sided_grammar, d__law_mirror_grammar, d__law_near_grammar, d__law_far_grammar, d__law_odd_grammar, d__law_known_grammar, d__law_random_grammar, d__law_grammar] : List He.DefD) ++ ([d__law_again, d__law_own_two, d__law_right_here, d_law] : List He.DefD)
def fa : List He.Fa := ([.glo "is_whole", .glo "is_tuple_of", .glo "is_name", .glo "is_terminal_name", .glo "is_nonterminal_name", .glo "ascends", .glo "lefts_of", .glo "fits_rule", .glo "fits_grammar", .glo "rules_for", .glo "need_grammar", .glo "right_of", .glo "symbol_behind", .glo "fits_item", .glo "fits_items", .glo "all_items", .glo "closed_by", .glo "need_items", .glo "items_of", .glo "closed"] : List He.Fa) ++ ([.glo "_law_cup", .glo "_law_roll", .glo "_law_some", .glo "_law_right", .glo "_law_all_items", .glo "_law_behind", .glo "_law_closed", .glo "_law_named", .glo "_law_over", .glo "_law_list_grammar", .glo "_law_nest_grammar", .glo "_law_level_grammar", .glo "_law_two_sided_grammar", .glo "_law_mirror_grammar", .glo "_law_near_grammar", .glo "_law_far_grammar", .glo "_law_odd_grammar", .glo "_law_known_grammar", .glo "_law_random_grammar", .glo "_law_grammar"] : List He.Fa) ++ ([.glo "_law_again", .glo "_law_own_two", .glo "_law_right_here", .glo "law", .free "len", .free "list", .free "tuple", .free "all", .free "isinstance", .free "int", .free "bool", .free "str", .free "abs", .free "range", .free "sorted", .free "set", .free "sum", .free "enumerate", .free "zip", .int "NAME" 20] : List He.Fa) ++ ([.int "TERMINALS" 40, .int "NONTERMINALS" 40, .int "RULES" 80, .int "RIGHT" 8, .str "SMALL" "abcdefghijklmnopqrstuvwxyz", .str "CAPITAL" "ABCDEFGHIJKLMNOPQRSTUVWXYZ", .str "FIGURES" "0123456789", .int "ITEMS" 729] : List He.Fa)
def names : List PySem.Str := (["RoadError", "InvalidGrammar", "InvalidItems", "NAME", "TERMINALS", "NONTERMINALS", "RULES", "RIGHT", "SMALL", "CAPITAL", "FIGURES", "ITEMS", "is_whole", "is_tuple_of", "is_name", "is_terminal_name", "is_nonterminal_name", "ascends", "lefts_of", "fits_rule"] : List PySem.Str) ++ (["fits_grammar", "rules_for", "need_grammar", "right_of", "symbol_behind", "fits_item", "fits_items", "all_items", "closed_by", "need_items", "items_of", "closed", "_law_cup", "_law_roll", "_law_some", "_law_right", "_law_all_items", "_law_behind", "_law_closed", "_law_named"] : List PySem.Str) ++ (["_law_over", "_law_list_grammar", "_law_nest_grammar", "_law_level_grammar", "_law_two_sided_grammar", "_law_mirror_grammar", "_law_near_grammar", "_law_far_grammar", "_law_odd_grammar", "_law_known_grammar", "_law_random_grammar", "_law_grammar", "_law_again", "_law_own_two", "_law_right_here"] : List PySem.Str)
--  44 68 55 law at 59

abbrev RW : PySem.W.OpenRow := PySem.W.OpenLaw.row PySem.Challenge.rw_shiftroads_k31_whole_items_and_closed_it
abbrev hk : PySem.W.Hook := He.hookD 4 fa fn
def ob (s : PySem.W.SharedT) : He.AlD := He.obsDG 4 fa fn (HandSHeadRun.getT s)
theorem ob_eq (s : PySem.W.SharedT) : ob s = hk.obs s.abs := He.obsDG_eq (HandSHeadRun.getT_eq s)
theorem top_run (w : World) : HandSHeadRun.RunEq RW (PySem.W.view RW.prog [59]) hk ob 3000 names w := by
  intro os
  kernel_rfl
end Sh

set_option maxHeartbeats 4000000
/-! Layer h: the facts out of the head, and the row. -/
namespace Sh
open PySem PySem.Spec PyProof.Rows L2
theorem n_is_whole {K : PySem.W.Frag} {h : Heap} {mg : Str → Option Value} (X : K.In h) (G : h.Ns mainGlobals mg) (c : He.SaysD fa fn K) : Dn K mg "is_whole" s_is_whole ["value", "low", "high"] := by
  obtain ⟨fd, F⟩ := c.def_ 0 (d := d_is_whole) rfl
  exact ⟨_, fd, F, F.bindsN fun _ _ _ _ _ _ us hl => match us, hl with | [_, _, _], _ => rfl, He.glo_ok X G (c.fact 0 (f := .glo "is_whole") rfl)⟩
theorem n_is_tuple_of {K : PySem.W.Frag} {h : Heap} {mg : Str → Option Value} (X : K.In h) (G : h.Ns mainGlobals mg) (c : He.SaysD fa fn K) : Dn K mg "is_tuple_of" s_is_tuple_of ["value", "low", "high"] := by
  obtain ⟨fd, F⟩ := c.def_ 1 (d := d_is_tuple_of) rfl
  exact ⟨_, fd, F, F.bindsN fun _ _ _ _ _ _ us hl => match us, hl with | [_, _, _], _ => rfl, He.glo_ok X G (c.fact 1 (f := .glo "is_tuple_of") rfl)⟩
theorem n_is_name {K : PySem.W.Frag} {h : Heap} {mg : Str → Option Value} (X : K.In h) (G : h.Ns mainGlobals mg) (c : He.SaysD fa fn K) : Dn K mg "is_name" s_is_name ["value"] := by
  obtain ⟨fd, F⟩ := c.def_ 2 (d := d_is_name) rfl
  exact ⟨_, fd, F, F.bindsN fun _ _ _ _ _ _ us hl => match us, hl with | [_], _ => rfl, He.glo_ok X G (c.fact 2 (f := .glo "is_name") rfl)⟩
theorem n_is_terminal_name {K : PySem.W.Frag} {h : Heap} {mg : Str → Option Value} (X : K.In h) (G : h.Ns mainGlobals mg) (c : He.SaysD fa fn K) : Dn K mg "is_terminal_name" s_is_terminal_name ["value"] := by
  obtain ⟨fd, F⟩ := c.def_ 3 (d := d_is_terminal_name) rfl
  exact ⟨_, fd, F, F.bindsN fun _ _ _ _ _ _ us hl => match us, hl with | [_], _ => rfl, He.glo_ok X G (c.fact 3 (f := .glo "is_terminal_name") rfl)⟩
theorem n_is_nonterminal_name {K : PySem.W.Frag} {h : Heap} {mg : Str → Option Value} (X : K.In h) (G : h.Ns mainGlobals mg) (c : He.SaysD fa fn K) : Dn K mg "is_nonterminal_name" s_is_nonterminal_name ["value"] := by
  obtain ⟨fd, F⟩ := c.def_ 4 (d := d_is_nonterminal_name) rfl
  exact ⟨_, fd, F, F.bindsN fun _ _ _ _ _ _ us hl => match us, hl with | [_], _ => rfl, He.glo_ok X G (c.fact 4 (f := .glo "is_nonterminal_name") rfl)⟩
theorem n_ascends {K : PySem.W.Frag} {h : Heap} {mg : Str → Option Value} (X : K.In h) (G : h.Ns mainGlobals mg) (c : He.SaysD fa fn K) : Dn K mg "ascends" s_ascends ["items"] := by
  obtain ⟨fd, F⟩ := c.def_ 5 (d := d_ascends) rfl
  exact ⟨_, fd, F, F.bindsN fun _ _ _ _ _ _ us hl => match us, hl with | [_], _ => rfl, He.glo_ok X G (c.fact 5 (f := .glo "ascends") rfl)⟩
theorem n_lefts_of {K : PySem.W.Frag} {h : Heap} {mg : Str → Option Value} (X : K.In h) (G : h.Ns mainGlobals mg) (c : He.SaysD fa fn K) : Dn K mg "lefts_of" s_lefts_of ["rules"] := by
  obtain ⟨fd, F⟩ := c.def_ 6 (d := d_lefts_of) rfl
  exact ⟨_, fd, F, F.bindsN fun _ _ _ _ _ _ us hl => match us, hl with | [_], _ => rfl, He.glo_ok X G (c.fact 6 (f := .glo "lefts_of") rfl)⟩
theorem n_fits_rule {K : PySem.W.Frag} {h : Heap} {mg : Str → Option Value} (X : K.In h) (G : h.Ns mainGlobals mg) (c : He.SaysD fa fn K) : Dn K mg "fits_rule" s_fits_rule ["value"] := by
  obtain ⟨fd, F⟩ := c.def_ 7 (d := d_fits_rule) rfl
  exact ⟨_, fd, F, F.bindsN fun _ _ _ _ _ _ us hl => match us, hl with | [_], _ => rfl, He.glo_ok X G (c.fact 7 (f := .glo "fits_rule") rfl)⟩
theorem n_fits_grammar {K : PySem.W.Frag} {h : Heap} {mg : Str → Option Value} (X : K.In h) (G : h.Ns mainGlobals mg) (c : He.SaysD fa fn K) : Dn K mg "fits_grammar" s_fits_grammar ["value"] := by
  obtain ⟨fd, F⟩ := c.def_ 8 (d := d_fits_grammar) rfl
  exact ⟨_, fd, F, F.bindsN fun _ _ _ _ _ _ us hl => match us, hl with | [_], _ => rfl, He.glo_ok X G (c.fact 8 (f := .glo "fits_grammar") rfl)⟩
theorem n_rules_for {K : PySem.W.Frag} {h : Heap} {mg : Str → Option Value} (X : K.In h) (G : h.Ns mainGlobals mg) (c : He.SaysD fa fn K) : Dn K mg "rules_for" s_rules_for ["grammar", "nonterminal"] := by
  obtain ⟨fd, F⟩ := c.def_ 9 (d := d_rules_for) rfl
  exact ⟨_, fd, F, F.bindsN fun _ _ _ _ _ _ us hl => match us, hl with | [_, _], _ => rfl, He.glo_ok X G (c.fact 9 (f := .glo "rules_for") rfl)⟩
theorem n_need_grammar {K : PySem.W.Frag} {h : Heap} {mg : Str → Option Value} (X : K.In h) (G : h.Ns mainGlobals mg) (c : He.SaysD fa fn K) : Dn K mg "need_grammar" s_need_grammar ["value"] := by
  obtain ⟨fd, F⟩ := c.def_ 10 (d := d_need_grammar) rfl
  exact ⟨_, fd, F, F.bindsN fun _ _ _ _ _ _ us hl => match us, hl with | [_], _ => rfl, He.glo_ok X G (c.fact 10 (f := .glo "need_grammar") rfl)⟩
theorem n_right_of {K : PySem.W.Frag} {h : Heap} {mg : Str → Option Value} (X : K.In h) (G : h.Ns mainGlobals mg) (c : He.SaysD fa fn K) : Dn K mg "right_of" s_right_of ["grammar", "rule"] := by
  obtain ⟨fd, F⟩ := c.def_ 11 (d := d_right_of) rfl
  exact ⟨_, fd, F, F.bindsN fun _ _ _ _ _ _ us hl => match us, hl with | [_, _], _ => rfl, He.glo_ok X G (c.fact 11 (f := .glo "right_of") rfl)⟩
theorem n_symbol_behind {K : PySem.W.Frag} {h : Heap} {mg : Str → Option Value} (X : K.In h) (G : h.Ns mainGlobals mg) (c : He.SaysD fa fn K) : Dn K mg "symbol_behind" s_symbol_behind ["grammar", "item"] := by
  obtain ⟨fd, F⟩ := c.def_ 12 (d := d_symbol_behind) rfl
  exact ⟨_, fd, F, F.bindsN fun _ _ _ _ _ _ us hl => match us, hl with | [_, _], _ => rfl, He.glo_ok X G (c.fact 12 (f := .glo "symbol_behind") rfl)⟩
theorem n_fits_item {K : PySem.W.Frag} {h : Heap} {mg : Str → Option Value} (X : K.In h) (G : h.Ns mainGlobals mg) (c : He.SaysD fa fn K) : Dn K mg "fits_item" s_fits_item ["grammar", "value"] := by
  obtain ⟨fd, F⟩ := c.def_ 13 (d := d_fits_item) rfl
  exact ⟨_, fd, F, F.bindsN fun _ _ _ _ _ _ us hl => match us, hl with | [_, _], _ => rfl, He.glo_ok X G (c.fact 13 (f := .glo "fits_item") rfl)⟩
theorem n_fits_items {K : PySem.W.Frag} {h : Heap} {mg : Str → Option Value} (X : K.In h) (G : h.Ns mainGlobals mg) (c : He.SaysD fa fn K) : Dn K mg "fits_items" s_fits_items ["grammar", "value"] := by
  obtain ⟨fd, F⟩ := c.def_ 14 (d := d_fits_items) rfl
  exact ⟨_, fd, F, F.bindsN fun _ _ _ _ _ _ us hl => match us, hl with | [_, _], _ => rfl, He.glo_ok X G (c.fact 14 (f := .glo "fits_items") rfl)⟩
theorem n_all_items {K : PySem.W.Frag} {h : Heap} {mg : Str → Option Value} (X : K.In h) (G : h.Ns mainGlobals mg) (c : He.SaysD fa fn K) : Dn K mg "all_items" s_all_items ["grammar"] := by
  obtain ⟨fd, F⟩ := c.def_ 15 (d := d_all_items) rfl
  exact ⟨_, fd, F, F.bindsN fun _ _ _ _ _ _ us hl => match us, hl with | [_], _ => rfl, He.glo_ok X G (c.fact 15 (f := .glo "all_items") rfl)⟩
theorem n_closed_by {K : PySem.W.Frag} {h : Heap} {mg : Str → Option Value} (X : K.In h) (G : h.Ns mainGlobals mg) (c : He.SaysD fa fn K) : Dn K mg "closed_by" s_closed_by ["grammar", "items"] := by
  obtain ⟨fd, F⟩ := c.def_ 16 (d := d_closed_by) rfl
  exact ⟨_, fd, F, F.bindsN fun _ _ _ _ _ _ us hl => match us, hl with | [_, _], _ => rfl, He.glo_ok X G (c.fact 16 (f := .glo "closed_by") rfl)⟩
theorem n_need_items {K : PySem.W.Frag} {h : Heap} {mg : Str → Option Value} (X : K.In h) (G : h.Ns mainGlobals mg) (c : He.SaysD fa fn K) : Dn K mg "need_items" s_need_items ["grammar", "value"] := by
  obtain ⟨fd, F⟩ := c.def_ 17 (d := d_need_items) rfl
  exact ⟨_, fd, F, F.bindsN fun _ _ _ _ _ _ us hl => match us, hl with | [_, _], _ => rfl, He.glo_ok X G (c.fact 17 (f := .glo "need_items") rfl)⟩
theorem n_items_of {K : PySem.W.Frag} {h : Heap} {mg : Str → Option Value} (X : K.In h) (G : h.Ns mainGlobals mg) (c : He.SaysD fa fn K) : Dn K mg "items_of" s_items_of ["grammar"] := by
  obtain ⟨fd, F⟩ := c.def_ 18 (d := d_items_of) rfl
  exact ⟨_, fd, F, F.bindsN fun _ _ _ _ _ _ us hl => match us, hl with | [_], _ => rfl, He.glo_ok X G (c.fact 18 (f := .glo "items_of") rfl)⟩
theorem n_closed {K : PySem.W.Frag} {h : Heap} {mg : Str → Option Value} (X : K.In h) (G : h.Ns mainGlobals mg) (c : He.SaysD fa fn K) : Dn K mg "closed" s_closed ["grammar", "items"] := by
  obtain ⟨fd, F⟩ := c.def_ 19 (d := d_closed) rfl
  exact ⟨_, fd, F, F.bindsN fun _ _ _ _ _ _ us hl => match us, hl with | [_, _], _ => rfl, He.glo_ok X G (c.fact 19 (f := .glo "closed") rfl)⟩
theorem n__law_cup {K : PySem.W.Frag} {h : Heap} {mg : Str → Option Value} (X : K.In h) (G : h.Ns mainGlobals mg) (c : He.SaysD fa fn K) : Dn K mg "_law_cup" s__law_cup ["_law_script"] := by
  obtain ⟨fd, F⟩ := c.def_ 20 (d := d__law_cup) rfl
  exact ⟨_, fd, F, F.bindsN fun _ _ _ _ _ _ us hl => match us, hl with | [_], _ => rfl, He.glo_ok X G (c.fact 20 (f := .glo "_law_cup") rfl)⟩
theorem n__law_roll {K : PySem.W.Frag} {h : Heap} {mg : Str → Option Value} (X : K.In h) (G : h.Ns mainGlobals mg) (c : He.SaysD fa fn K) : Dn K mg "_law_roll" s__law_roll ["_law_cup_here", "_law_many"] := by
  obtain ⟨fd, F⟩ := c.def_ 21 (d := d__law_roll) rfl
  exact ⟨_, fd, F, F.bindsN fun _ _ _ _ _ _ us hl => match us, hl with | [_, _], _ => rfl, He.glo_ok X G (c.fact 21 (f := .glo "_law_roll") rfl)⟩
theorem n__law_some {K : PySem.W.Frag} {h : Heap} {mg : Str → Option Value} (X : K.In h) (G : h.Ns mainGlobals mg) (c : He.SaysD fa fn K) : Dn K mg "_law_some" s__law_some ["_law_cup_here", "_law_things"] := by
  obtain ⟨fd, F⟩ := c.def_ 22 (d := d__law_some) rfl
  exact ⟨_, fd, F, F.bindsN fun _ _ _ _ _ _ us hl => match us, hl with | [_, _], _ => rfl, He.glo_ok X G (c.fact 22 (f := .glo "_law_some") rfl)⟩
theorem n__law_right {K : PySem.W.Frag} {h : Heap} {mg : Str → Option Value} (X : K.In h) (G : h.Ns mainGlobals mg) (c : He.SaysD fa fn K) : Dn K mg "_law_right" s__law_right ["_law_grammar_here", "_law_rule"] := by
  obtain ⟨fd, F⟩ := c.def_ 23 (d := d__law_right) rfl
  exact ⟨_, fd, F, F.bindsN fun _ _ _ _ _ _ us hl => match us, hl with | [_, _], _ => rfl, He.glo_ok X G (c.fact 23 (f := .glo "_law_right") rfl)⟩
theorem n__law_all_items {K : PySem.W.Frag} {h : Heap} {mg : Str → Option Value} (X : K.In h) (G : h.Ns mainGlobals mg) (c : He.SaysD fa fn K) : Dn K mg "_law_all_items" s__law_all_items ["_law_grammar_here"] := by
  obtain ⟨fd, F⟩ := c.def_ 24 (d := d__law_all_items) rfl
  exact ⟨_, fd, F, F.bindsN fun _ _ _ _ _ _ us hl => match us, hl with | [_], _ => rfl, He.glo_ok X G (c.fact 24 (f := .glo "_law_all_items") rfl)⟩
theorem n__law_behind {K : PySem.W.Frag} {h : Heap} {mg : Str → Option Value} (X : K.In h) (G : h.Ns mainGlobals mg) (c : He.SaysD fa fn K) : Dn K mg "_law_behind" s__law_behind ["_law_grammar_here", "_law_item"] := by
  obtain ⟨fd, F⟩ := c.def_ 25 (d := d__law_behind) rfl
  exact ⟨_, fd, F, F.bindsN fun _ _ _ _ _ _ us hl => match us, hl with | [_, _], _ => rfl, He.glo_ok X G (c.fact 25 (f := .glo "_law_behind") rfl)⟩
theorem n__law_closed {K : PySem.W.Frag} {h : Heap} {mg : Str → Option Value} (X : K.In h) (G : h.Ns mainGlobals mg) (c : He.SaysD fa fn K) : Dn K mg "_law_closed" s__law_closed ["_law_grammar_here", "_law_items"] := by
  obtain ⟨fd, F⟩ := c.def_ 26 (d := d__law_closed) rfl
  exact ⟨_, fd, F, F.bindsN fun _ _ _ _ _ _ us hl => match us, hl with | [_, _], _ => rfl, He.glo_ok X G (c.fact 26 (f := .glo "_law_closed") rfl)⟩
theorem n__law_named {K : PySem.W.Frag} {h : Heap} {mg : Str → Option Value} (X : K.In h) (G : h.Ns mainGlobals mg) (c : He.SaysD fa fn K) : Dn K mg "_law_named" s__law_named ["_law_cup_here", "_law_many"] := by
  obtain ⟨fd, F⟩ := c.def_ 27 (d := d__law_named) rfl
  exact ⟨_, fd, F, F.bindsN fun _ _ _ _ _ _ us hl => match us, hl with | [_, _], _ => rfl, He.glo_ok X G (c.fact 27 (f := .glo "_law_named") rfl)⟩
theorem n__law_over {K : PySem.W.Frag} {h : Heap} {mg : Str → Option Value} (X : K.In h) (G : h.Ns mainGlobals mg) (c : He.SaysD fa fn K) : Dn K mg "_law_over" s__law_over ["_law_rules"] := by
  obtain ⟨fd, F⟩ := c.def_ 28 (d := d__law_over) rfl
  exact ⟨_, fd, F, F.bindsN fun _ _ _ _ _ _ us hl => match us, hl with | [_], _ => rfl, He.glo_ok X G (c.fact 28 (f := .glo "_law_over") rfl)⟩
theorem n__law_list_grammar {K : PySem.W.Frag} {h : Heap} {mg : Str → Option Value} (X : K.In h) (G : h.Ns mainGlobals mg) (c : He.SaysD fa fn K) : Dn K mg "_law_list_grammar" s__law_list_grammar ["_law_cup_here"] := by
  obtain ⟨fd, F⟩ := c.def_ 29 (d := d__law_list_grammar) rfl
  exact ⟨_, fd, F, F.bindsN fun _ _ _ _ _ _ us hl => match us, hl with | [_], _ => rfl, He.glo_ok X G (c.fact 29 (f := .glo "_law_list_grammar") rfl)⟩
theorem n__law_nest_grammar {K : PySem.W.Frag} {h : Heap} {mg : Str → Option Value} (X : K.In h) (G : h.Ns mainGlobals mg) (c : He.SaysD fa fn K) : Dn K mg "_law_nest_grammar" s__law_nest_grammar ["_law_cup_here"] := by
  obtain ⟨fd, F⟩ := c.def_ 30 (d := d__law_nest_grammar) rfl
  exact ⟨_, fd, F, F.bindsN fun _ _ _ _ _ _ us hl => match us, hl with | [_], _ => rfl, He.glo_ok X G (c.fact 30 (f := .glo "_law_nest_grammar") rfl)⟩
theorem n__law_level_grammar {K : PySem.W.Frag} {h : Heap} {mg : Str → Option Value} (X : K.In h) (G : h.Ns mainGlobals mg) (c : He.SaysD fa fn K) : Dn K mg "_law_level_grammar" s__law_level_grammar ["_law_cup_here"] := by
  obtain ⟨fd, F⟩ := c.def_ 31 (d := d__law_level_grammar) rfl
  exact ⟨_, fd, F, F.bindsN fun _ _ _ _ _ _ us hl => match us, hl with | [_], _ => rfl, He.glo_ok X G (c.fact 31 (f := .glo "_law_level_grammar") rfl)⟩
theorem n__law_two_sided_grammar {K : PySem.W.Frag} {h : Heap} {mg : Str → Option Value} (X : K.In h) (G : h.Ns mainGlobals mg) (c : He.SaysD fa fn K) : Dn K mg "_law_two_sided_grammar" s__law_two_sided_grammar ["_law_cup_here"] := by
  obtain ⟨fd, F⟩ := c.def_ 32 (d := d__law_two_sided_grammar) rfl
  exact ⟨_, fd, F, F.bindsN fun _ _ _ _ _ _ us hl => match us, hl with | [_], _ => rfl, He.glo_ok X G (c.fact 32 (f := .glo "_law_two_sided_grammar") rfl)⟩
theorem n__law_mirror_grammar {K : PySem.W.Frag} {h : Heap} {mg : Str → Option Value} (X : K.In h) (G : h.Ns mainGlobals mg) (c : He.SaysD fa fn K) : Dn K mg "_law_mirror_grammar" s__law_mirror_grammar ["_law_cup_here"] := by
  obtain ⟨fd, F⟩ := c.def_ 33 (d := d__law_mirror_grammar) rfl
  exact ⟨_, fd, F, F.bindsN fun _ _ _ _ _ _ us hl => match us, hl with | [_], _ => rfl, He.glo_ok X G (c.fact 33 (f := .glo "_law_mirror_grammar") rfl)⟩
theorem n__law_near_grammar {K : PySem.W.Frag} {h : Heap} {mg : Str → Option Value} (X : K.In h) (G : h.Ns mainGlobals mg) (c : He.SaysD fa fn K) : Dn K mg "_law_near_grammar" s__law_near_grammar ["_law_cup_here"] := by
  obtain ⟨fd, F⟩ := c.def_ 34 (d := d__law_near_grammar) rfl
  exact ⟨_, fd, F, F.bindsN fun _ _ _ _ _ _ us hl => match us, hl with | [_], _ => rfl, He.glo_ok X G (c.fact 34 (f := .glo "_law_near_grammar") rfl)⟩
theorem n__law_far_grammar {K : PySem.W.Frag} {h : Heap} {mg : Str → Option Value} (X : K.In h) (G : h.Ns mainGlobals mg) (c : He.SaysD fa fn K) : Dn K mg "_law_far_grammar" s__law_far_grammar ["_law_cup_here"] := by
  obtain ⟨fd, F⟩ := c.def_ 35 (d := d__law_far_grammar) rfl
  exact ⟨_, fd, F, F.bindsN fun _ _ _ _ _ _ us hl => match us, hl with | [_], _ => rfl, He.glo_ok X G (c.fact 35 (f := .glo "_law_far_grammar") rfl)⟩
theorem n__law_odd_grammar {K : PySem.W.Frag} {h : Heap} {mg : Str → Option Value} (X : K.In h) (G : h.Ns mainGlobals mg) (c : He.SaysD fa fn K) : Dn K mg "_law_odd_grammar" s__law_odd_grammar ["_law_cup_here"] := by
  obtain ⟨fd, F⟩ := c.def_ 36 (d := d__law_odd_grammar) rfl
  exact ⟨_, fd, F, F.bindsN fun _ _ _ _ _ _ us hl => match us, hl with | [_], _ => rfl, He.glo_ok X G (c.fact 36 (f := .glo "_law_odd_grammar") rfl)⟩
theorem n__law_known_grammar {K : PySem.W.Frag} {h : Heap} {mg : Str → Option Value} (X : K.In h) (G : h.Ns mainGlobals mg) (c : He.SaysD fa fn K) : Dn K mg "_law_known_grammar" s__law_known_grammar ["_law_cup_here"] := by
  obtain ⟨fd, F⟩ := c.def_ 37 (d := d__law_known_grammar) rfl
  exact ⟨_, fd, F, F.bindsN fun _ _ _ _ _ _ us hl => match us, hl with | [_], _ => rfl, He.glo_ok X G (c.fact 37 (f := .glo "_law_known_grammar") rfl)⟩
theorem n__law_random_grammar {K : PySem.W.Frag} {h : Heap} {mg : Str → Option Value} (X : K.In h) (G : h.Ns mainGlobals mg) (c : He.SaysD fa fn K) : Dn K mg "_law_random_grammar" s__law_random_grammar ["_law_cup_here"] := by
  obtain ⟨fd, F⟩ := c.def_ 38 (d := d__law_random_grammar) rfl
  exact ⟨_, fd, F, F.bindsN fun _ _ _ _ _ _ us hl => match us, hl with | [_], _ => rfl, He.glo_ok X G (c.fact 38 (f := .glo "_law_random_grammar") rfl)⟩
theorem n__law_grammar {K : PySem.W.Frag} {h : Heap} {mg : Str → Option Value} (X : K.In h) (G : h.Ns mainGlobals mg) (c : He.SaysD fa fn K) : Dn K mg "_law_grammar" s__law_grammar ["_law_cup_here"] := by
  obtain ⟨fd, F⟩ := c.def_ 39 (d := d__law_grammar) rfl
  exact ⟨_, fd, F, F.bindsN fun _ _ _ _ _ _ us hl => match us, hl with | [_], _ => rfl, He.glo_ok X G (c.fact 39 (f := .glo "_law_grammar") rfl)⟩
theorem n__law_again {K : PySem.W.Frag} {h : Heap} {mg : Str → Option Value} (X : K.In h) (G : h.Ns mainGlobals mg) (c : He.SaysD fa fn K) : Dn K mg "_law_again" s__law_again [] := by
  obtain ⟨fd, F⟩ := c.def_ 40 (d := d__law_again) rfl
  exact ⟨_, fd, F, F.bindsN fun _ _ _ _ _ _ us hl => match us, hl with | [], _ => rfl, He.glo_ok X G (c.fact 40 (f := .glo "_law_again") rfl)⟩
theorem n__law_own_two {K : PySem.W.Frag} {h : Heap} {mg : Str → Option Value} (X : K.In h) (G : h.Ns mainGlobals mg) (c : He.SaysD fa fn K) : Dn K mg "_law_own_two" s__law_own_two [] := by
  obtain ⟨fd, F⟩ := c.def_ 41 (d := d__law_own_two) rfl
  exact ⟨_, fd, F, F.bindsN fun _ _ _ _ _ _ us hl => match us, hl with | [], _ => rfl, He.glo_ok X G (c.fact 41 (f := .glo "_law_own_two") rfl)⟩
theorem n__law_right_here {K : PySem.W.Frag} {h : Heap} {mg : Str → Option Value} (X : K.In h) (G : h.Ns mainGlobals mg) (c : He.SaysD fa fn K) : Dn K mg "_law_right_here" s__law_right_here ["_law_cup_here", "_law_grammar_here"] := by
  obtain ⟨fd, F⟩ := c.def_ 42 (d := d__law_right_here) rfl
  exact ⟨_, fd, F, F.bindsN fun _ _ _ _ _ _ us hl => match us, hl with | [_, _], _ => rfl, He.glo_ok X G (c.fact 42 (f := .glo "_law_right_here") rfl)⟩
theorem n_law {K : PySem.W.Frag} {h : Heap} {mg : Str → Option Value} (X : K.In h) (G : h.Ns mainGlobals mg) (c : He.SaysD fa fn K) : Dn K mg "law" s_law ["_law_script"] := by
  obtain ⟨fd, F⟩ := c.def_ 43 (d := d_law) rfl
  exact ⟨_, fd, F, F.bindsN fun _ _ _ _ _ _ us hl => match us, hl with | [_], _ => rfl, He.glo_ok X G (c.fact 43 (f := .glo "law") rfl)⟩
theorem tb_of {K : PySem.W.Frag} {h : Heap} {mg : Str → Option Value} (X : K.In h) (G : h.Ns mainGlobals mg) (c : He.SaysD fa fn K) : Tb K mg where
  b_len := He.free_ok X G (c.fact 44 (f := .free "len") rfl)
  b_list := He.free_ok X G (c.fact 45 (f := .free "list") rfl)
  b_tuple := He.free_ok X G (c.fact 46 (f := .free "tuple") rfl)
  b_all := He.free_ok X G (c.fact 47 (f := .free "all") rfl)
  b_isinstance := He.free_ok X G (c.fact 48 (f := .free "isinstance") rfl)
  b_int := He.free_ok X G (c.fact 49 (f := .free "int") rfl)
  b_bool := He.free_ok X G (c.fact 50 (f := .free "bool") rfl)
  b_str := He.free_ok X G (c.fact 51 (f := .free "str") rfl)
  b_abs := He.free_ok X G (c.fact 52 (f := .free "abs") rfl)
  b_range := He.free_ok X G (c.fact 53 (f := .free "range") rfl)
  b_sorted := He.free_ok X G (c.fact 54 (f := .free "sorted") rfl)
  b_set := He.free_ok X G (c.fact 55 (f := .free "set") rfl)
  b_sum := He.free_ok X G (c.fact 56 (f := .free "sum") rfl)
  b_enumerate := He.free_ok X G (c.fact 57 (f := .free "enumerate") rfl)
  b_zip := He.free_ok X G (c.fact 58 (f := .free "zip") rfl)
  c_NAME := He.int_ok X G (c.fact 59 (f := .int "NAME" 20) rfl)
  c_TERMINALS := He.int_ok X G (c.fact 60 (f := .int "TERMINALS" 40) rfl)
  c_NONTERMINALS := He.int_ok X G (c.fact 61 (f := .int "NONTERMINALS" 40) rfl)
  c_RULES := He.int_ok X G (c.fact 62 (f := .int "RULES" 80) rfl)
  c_RIGHT := He.int_ok X G (c.fact 63 (f := .int "RIGHT" 8) rfl)
  c_SMALL := He.str_ok X G (c.fact 64 (f := .str "SMALL" "abcdefghijklmnopqrstuvwxyz") rfl)
  c_CAPITAL := He.str_ok X G (c.fact 65 (f := .str "CAPITAL" "ABCDEFGHIJKLMNOPQRSTUVWXYZ") rfl)
  c_FIGURES := He.str_ok X G (c.fact 66 (f := .str "FIGURES" "0123456789") rfl)
  c_ITEMS := He.int_ok X G (c.fact 67 (f := .int "ITEMS" 729) rfl)
  d_is_whole := n_is_whole X G c
  d_is_tuple_of := n_is_tuple_of X G c
  d_is_name := n_is_name X G c
  d_is_terminal_name := n_is_terminal_name X G c
  d_is_nonterminal_name := n_is_nonterminal_name X G c
  d_ascends := n_ascends X G c
  d_lefts_of := n_lefts_of X G c
  d_fits_rule := n_fits_rule X G c
  d_fits_grammar := n_fits_grammar X G c
  d_rules_for := n_rules_for X G c
  d_need_grammar := n_need_grammar X G c
  d_right_of := n_right_of X G c
  d_symbol_behind := n_symbol_behind X G c
  d_fits_item := n_fits_item X G c
  d_fits_items := n_fits_items X G c
  d_all_items := n_all_items X G c
  d_closed_by := n_closed_by X G c
  d_need_items := n_need_items X G c
  d_items_of := n_items_of X G c
  d_closed := n_closed X G c
  d__law_cup := n__law_cup X G c
  d__law_roll := n__law_roll X G c
  d__law_some := n__law_some X G c
  d__law_right := n__law_right X G c
  d__law_all_items := n__law_all_items X G c
  d__law_behind := n__law_behind X G c
  d__law_closed := n__law_closed X G c
  d__law_named := n__law_named X G c
  d__law_over := n__law_over X G c
  d__law_list_grammar := n__law_list_grammar X G c
  d__law_nest_grammar := n__law_nest_grammar X G c
  d__law_level_grammar := n__law_level_grammar X G c
  d__law_two_sided_grammar := n__law_two_sided_grammar X G c
  d__law_mirror_grammar := n__law_mirror_grammar X G c
  d__law_near_grammar := n__law_near_grammar X G c
  d__law_far_grammar := n__law_far_grammar X G c
  d__law_odd_grammar := n__law_odd_grammar X G c
  d__law_known_grammar := n__law_known_grammar X G c
  d__law_random_grammar := n__law_random_grammar X G c
  d__law_grammar := n__law_grammar X G c
  d__law_again := n__law_again X G c
  d__law_own_two := n__law_own_two X G c
  d__law_right_here := n__law_right_here X G c
  d_law := n_law X G c
theorem law_facts {P : Program} {w : World} {K : PySem.W.Frag} {h : Heap} {mg : Str → Option Value} {f : Addr} (X : K.In h) (G : h.Ns mainGlobals mg) (hfa : mg ("law" : Str) = some (.ref f)) (c : He.SaysD fa fn K) :
    ∃ fd : FuncData, (∀ (s : Shared) (v : Value), BindsTo s fd ⟨[v], []⟩ [("_law_script", v)]) ∧ ∀ base : Heap, K.In base → base.Ns mainGlobals mg → FnOk P w K mg base CX0 8 f fd ["_law_script"] (spLaw K) := by
  obtain ⟨fd, F⟩ := c.def_ 43 (d := d_law) rfl
  have e := hfa.symm.trans (He.glo_ok X G (c.fact 43 (f := .glo "law") rfl))
  cases e
  have b := FunD.bindsA (ps := ["_law_script"]) F fun _ _ _ _ _ _ us hl => match us, hl with | [_], _ => rfl
  exact ⟨fd, fun s v => b s [v] rfl, fun base _ _ => ok_law (tb_of X G c) F⟩
end Sh
open PySem PySem.W PySem.Calls PyProof.Rows
theorem PySem.Challenge.cw_shiftroads_k31_whole_items_and_closed_it_holds : PySem.Challenge.rw_shiftroads_k31_whole_items_and_closed_it.Holds := by
  w_on; o_law
  refine HandSHeadRun.head_any (r := OpenLaw.row PySem.Challenge.rw_shiftroads_k31_whole_items_and_closed_it) (q := view (OpenLaw.row PySem.Challenge.rw_shiftroads_k31_whole_items_and_closed_it).prog [59]) (H := Sh.hk) (ob := Sh.ob) (M := 3000) (loose := Sh.names) (d := HandSHeadRun.topDef (OpenLaw.row PySem.Challenge.rw_shiftroads_k31_whole_items_and_closed_it).prog 59) (kwd := []) Sh.ob_eq
    (by kernel_rfl) (fun s => by kernel_rfl) Sh.top_run (by kernel_rfl) (by kernel_rfl) (by kernel_rfl) (by rfl) (by first | assumption | decide +kernel) (by decide +kernel) ⟨rfl, rfl, rfl, rfl, rfl, by decide +kernel⟩ ?hw ?hc
  case hw => w_witness2
  case hc =>
    refine L2.walk_ofE (l := PySem.Challenge.rw_shiftroads_k31_whole_items_and_closed_it) (n := 63) (k := 8) (x := "_law_script") (CX := L2.CX0) rfl (by decide) (by kernel_rfl) ⟨rfl, by decide, by decide⟩ ?F (fun _ _ _ _ z => z)
    intro w mg fa h Y G hmg0
    obtain ⟨K, KX, c⟩ := Y
    have hmg : mg ("law" : PySem.Str) = some (.ref fa) := by
      have e : (HandSHeadRun.topDef (OpenLaw.row PySem.Challenge.rw_shiftroads_k31_whole_items_and_closed_it).prog 59).name = ("law" : PySem.Str) := by kernel_rfl
      rw [← e]
      exact hmg0
    obtain ⟨fd, hb, hF⟩ := Sh.law_facts (P := (PySem.Challenge.rw_shiftroads_k31_whole_items_and_closed_it).prog) (w := w) KX G hmg c
    exact ⟨K, fd, Sh.spLaw K, KX, hb, fun H a ns hl _ hS => ⟨a, ns, rfl, hS, hl, fun _ => rfl⟩, hF⟩

