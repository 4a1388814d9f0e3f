import PyProof.Rows.All
import Wide.All
import OpenK.AllK
import Wide.FinOn
import HandS.ForMost
import HandS.ForExc
import HandS.Wide
import HandS.CallSlots
import HandS.IsInst
import HandS.Walk
import HandS.Zip
import HandS.NoneIn
import HandS.Style
import HandS.ExcOwn
import HandS.ExcCtx
import HandS.More
import HandS.EndBits
import HandS.Defaults
import HandS.ExcIs
import HandS.HotCalls
import HandS.CallLocal
import HandS.ForDict
import PySem.Challenge.RW_beadway_k04_whole_middles
set_option Elab.async false
set_option linter.all false
set_option maxRecDepth 100000
set_option maxHeartbeats 8000000
namespace Bd
open PySem L2

/-! ## values of the small machine -/
inductive BT where
  | int | bool | tuple | list | str | dict | verr
  deriving DecidableEq
def BT.name : BT → String
  | .int => "int" | .bool => "bool" | .tuple => "tuple" | .list => "list" | .str => "str" | .dict => "dict" | .verr => "ValueError"
inductive Val where
  | non | bl (b : Bool) | int (i : Int) | str (x : Str)
  | tup (vs : List Val) | lst (vs : List Val)
  | scr (vs : List Val) | dct
  | ref (i : Nat) | gl (x : Str) | ty (t : BT) | ex (c : Str)
  | ins (c : Str) (fs : List (Str × Val))
inductive Ob where
  | lst (vs : List Val)
  | ins (c : Str) (fs : List (Str × Val))
abbrev Sg := List (Option Val)
abbrev Sto := List Ob
inductive Out (α : Type) where
  | ok (a : α) (st : Sto) | er (c : Str) (st : Sto) | no
/-- an expression's meaning -/
abbrev EI := Sg → Sto → Out Val
abbrev AI := Sg → Sto → Out (List Val)
abbrev BI := Sg → Sto → Out Bool
inductive SOut where
  | nx (σ : Sg) (st : Sto) | rt (v : Val) (st : Sto) | bk (σ : Sg) (st : Sto) | ct (σ : Sg) (st : Sto) | er (c : Str) (σ : Sg) (st : Sto) | no
abbrev SI := Sg → Sto → SOut
def Out.bind {α β : Type} (x : Out α) (f : α → Sto → Out β) : Out β := match x with
  | .ok a st => f a st
  | .er c st => .er c st
  | .no => .no

/-! ## how they lie in the heap -/
/-- the exception that is handled, with its class's name -/
abbrev Exo := Option (Addr × Str)
structure Gt where
  K : PySem.W.Frag
  mg : Str → Option Value
  ex : Exo
/-- the class x of the text stands at C, and is a plain one -/
def ClsAt (G : Gt) (x : Str) (C : Addr) : Prop := G.mg x = some (.ref C)
mutual
inductive RV (G : Gt) (S : Hp) (ρ : List Addr) : Val → V → Prop
  | non : RV G S ρ .non .non
  | bl (b : Bool) : RV G S ρ (.bl b) (.bl b)
  | int (i : Int) : RV G S ρ (.int i) (.int i)
  | str (x : Str) : RV G S ρ (.str x) (.str x)
  | tup {vs : List Val} {p : Addr} {ws : List V} : S p = some (.tup ws) → RVs G S ρ vs ws → RV G S ρ (.tup vs) (.ref p)
  | lst {vs : List Val} {p : Addr} {ws : List V} : S p = some (.lst ws) → RVs G S ρ vs ws → RV G S ρ (.lst vs) (.ref p)
  | scr {vs : List Val} {p : Addr} {ws : List V} : SqL G.K S p ws → RVs G S ρ vs ws → RV G S ρ (.scr vs) (.ref p)
  | dct {p : Addr} : S p = some (.dK []) → RV G S ρ .dct (.ref p)
  | ref {i : Nat} {p : Addr} : ρ[i]? = some p → RV G S ρ (.ref i) (.ref p)
  | ty (t : BT) : RV G S ρ (.ty t) (.ty t.name)
  | gl {x : Str} {w : V} {u : Value} : G.mg x = some u → RelV w u → RV G S ρ (.gl x) w
  | ex {c : Str} {a : Addr} : G.ex = some (a, c) → RV G S ρ (.ex c) (.ref a)
  | ins {c : Str} {fs : List (Str × Val)} {p C dx : Addr} {ws : List (Str × V)} : S p = some (.ins C dx ws) → ClsAt G c C → RFs G S ρ fs ws → RV G S ρ (.ins c fs) (.ref p)
inductive RVs (G : Gt) (S : Hp) (ρ : List Addr) : List Val → List V → Prop
  | nil : RVs G S ρ [] []
  | cons {v : Val} {vs : List Val} {w : V} {ws : List V} : RV G S ρ v w → RVs G S ρ vs ws → RVs G S ρ (v :: vs) (w :: ws)
inductive RFs (G : Gt) (S : Hp) (ρ : List Addr) : List (Str × Val) → List (Str × V) → Prop
  | nil : RFs G S ρ [] []
  | cons {f : Str} {v : Val} {fs : List (Str × Val)} {w : V} {ws : List (Str × V)} : RV G S ρ v w → RFs G S ρ fs ws → RFs G S ρ ((f, v) :: fs) ((f, w) :: ws)
end
section
variable {G : Gt} {S S' : Hp} {ρ ρ' : List Addr}
theorem Same.rd {H H' : Hp} {a : Addr} {u : HO} (s : Same H H') (r : Rd H a u) : Rd H' a u := by
  rcases r with r | ⟨o, r⟩
  · exact .inl (s _ _ r)
  · exact .inr ⟨o, s _ _ r⟩
theorem pre_get {ρ ρ' : List Addr} (h : ρ <+: ρ') {i : Nat} {p : Addr} (e : ρ[i]? = some p) : ρ'[i]? = some p := by
  obtain ⟨t, rfl⟩ := h
  have hi := (List.getElem?_eq_some_iff.mp e).1
  rw [List.getElem?_append_left hi]; exact e
mutual
theorem RV.mono (s : Same S S') (h : ρ <+: ρ') : ∀ {v : Val} {w : V}, RV G S ρ v w → RV G S' ρ' v w
  | _, _, .non => .non
  | _, _, .bl b => .bl b
  | _, _, .int i => .int i
  | _, _, .str x => .str x
  | _, _, .tup e r => .tup (s _ _ e) (RVs.mono s h r)
  | _, _, .lst e r => .lst (s _ _ e) (RVs.mono s h r)
  | _, _, .scr e r => .scr (L2.Same.seq s e) (RVs.mono s h r)
  | _, _, .dct e => .dct (s _ _ e)
  | _, _, .ref e => .ref (pre_get h e)
  | _, _, .gl e r => .gl e r
  | _, _, .ty t => .ty t
  | _, _, .ex e => .ex e
  | _, _, .ins e c r => .ins (s _ _ e) c (RFs.mono s h r)
theorem RVs.mono (s : Same S S') (h : ρ <+: ρ') : ∀ {vs : List Val} {ws : List V}, RVs G S ρ vs ws → RVs G S' ρ' vs ws
  | _, _, .nil => .nil
  | _, _, .cons a b => .cons (RV.mono s h a) (RVs.mono s h b)
theorem RFs.mono (s : Same S S') (h : ρ <+: ρ') : ∀ {vs : List (Str × Val)} {ws : List (Str × V)}, RFs G S ρ vs ws → RFs G S' ρ' vs ws
  | _, _, .nil => .nil
  | _, _, .cons a b => .cons (RV.mono s h a) (RFs.mono s h b)
end
theorem RVs.length {vs : List Val} {ws : List V} (r : RVs G S ρ vs ws) : vs.length = ws.length := by
  induction vs generalizing ws with
  | nil => cases r; rfl
  | cons v vs ih => cases r with | cons a b => simp [ih b]
theorem RVs.get {vs : List Val} {ws : List V} (r : RVs G S ρ vs ws) : ∀ {i : Nat} {v : Val}, vs[i]? = some v → ∃ w, ws[i]? = some w ∧ RV G S ρ v w := by
  induction vs generalizing ws with
  | nil => intro i v e; simp at e
  | cons v vs ih =>
    cases r with
    | cons a b =>
      intro i x e
      cases i with
      | zero => simp at e; subst e; exact ⟨_, rfl, a⟩
      | succ i => simpa using ih b (by simpa using e)
theorem RVs.get' {vs : List Val} {ws : List V} (r : RVs G S ρ vs ws) : ∀ {i : Nat} {w : V}, ws[i]? = some w → ∃ v, vs[i]? = some v ∧ RV G S ρ v w := by
  induction vs generalizing ws with
  | nil => cases r; intro i v e; simp at e
  | cons v vs ih =>
    cases r with
    | cons a b =>
      intro i x e
      cases i with
      | zero => simp at e; subst e; exact ⟨_, rfl, a⟩
      | succ i => simpa using ih b (by simpa using e)
theorem RVs.append {vs vs' : List Val} {ws ws' : List V} (r : RVs G S ρ vs ws) (r' : RVs G S ρ vs' ws') : RVs G S ρ (vs ++ vs') (ws ++ ws') := by
  induction vs generalizing ws with
  | nil => cases r; exact r'
  | cons v vs ih => cases r with | cons a b => exact .cons a (ih b)
theorem RVs.drop {vs : List Val} {ws : List V} (r : RVs G S ρ vs ws) : ∀ n, RVs G S ρ (vs.drop n) (ws.drop n) := by
  induction vs generalizing ws with
  | nil => cases r; intro n; simp; exact .nil
  | cons v vs ih =>
    cases r with
    | cons a b =>
      intro n
      cases n with
      | zero => exact .cons a b
      | succ n => exact ih b n
theorem RVs.take {vs : List Val} {ws : List V} (r : RVs G S ρ vs ws) : ∀ n, RVs G S ρ (vs.take n) (ws.take n) := by
  induction vs generalizing ws with
  | nil => cases r; intro n; simp; exact .nil
  | cons v vs ih =>
    cases r with
    | cons a b =>
      intro n
      cases n with
      | zero => exact .nil
      | succ n => exact .cons a (ih b n)
theorem RVs.set {vs : List Val} {ws : List V} (r : RVs G S ρ vs ws) {v : Val} {w : V} (q : RV G S ρ v w) : ∀ n, RVs G S ρ (vs.set n v) (ws.set n w) := by
  induction vs generalizing ws with
  | nil => cases r; intro n; exact .nil
  | cons x xs ih =>
    cases r with
    | cons a b =>
      intro n
      cases n with
      | zero => exact .cons q b
      | succ n => exact .cons a (ih b n)
theorem RVs.ofMap {α : Type} {f : α → Val} {g : α → V} : ∀ {l : List α}, (∀ a ∈ l, RV G S ρ (f a) (g a)) → RVs G S ρ (l.map f) (l.map g)
  | [], _ => .nil
  | a :: l, h => .cons (h a (by simp)) (RVs.ofMap fun b hb => h b (by simp [hb]))
theorem RVs.eraseIdx {vs : List Val} {ws : List V} (r : RVs G S ρ vs ws) : ∀ n, RVs G S ρ (vs.eraseIdx n) (ws.eraseIdx n) := by
  induction vs generalizing ws with
  | nil => cases r; intro n; exact .nil
  | cons x xs ih =>
    cases r with
    | cons a b =>
      intro n
      cases n with
      | zero => exact b
      | succ n => exact .cons a (ih b n)
end

/-- a list or an instance of the small store at p -/
def ObR (G : Gt) (S : Hp) (ρ : List Addr) (H : Hp) (p : Addr) : Ob → Prop
  | .lst vs => ∃ ws, H p = some (.lst ws) ∧ RVs G S ρ vs ws
  | .ins c fs => ∃ C dx ws, H p = some (.ins C dx ws) ∧ ClsAt G c C ∧ RFs G S ρ fs ws
theorem ObR.mono {G : Gt} {S S' : Hp} {ρ ρ' : List Addr} {H H' : Hp} {p : Addr} (s : Same S S') (h : ρ <+: ρ') (e : ∀ o, H p = some o → H' p = some o) {ob : Ob} (r : ObR G S ρ H p ob) : ObR G S' ρ' H' p ob := by
  cases ob with
  | lst vs => obtain ⟨ws, a, b⟩ := r; exact ⟨ws, e _ a, b.mono s h⟩
  | ins c fs => obtain ⟨C, dx, ws, a, b, d⟩ := r; exact ⟨C, dx, ws, e _ a, b, d.mono s h⟩
/-- the heap: B what must stay (the callers'), S what is fixed and may be read, ρ where the small store's objects are -/
structure HR (G : Gt) (B S : Hp) (ρ : List Addr) (st : Sto) (H : Hp) : Prop where
  b : Same B H
  s : Same S H
  nd : ρ.Nodup
  len : ρ.length = st.length
  fr : ∀ (i : Nat) (p : Addr), ρ[i]? = some p → S p = none ∧ B p = none
  ob : ∀ (i : Nat) (p : Addr) (o : Ob), ρ[i]? = some p → st[i]? = some o → ObR G S ρ H p o
/-- the slots -/
def SlR (G : Gt) (S : Hp) (ρ : List Addr) (σI : Sg) (σ : St) : Prop := σI.length = σ.length ∧ ∀ (i : Nat) (v : Val), σI[i]? = some (some v) → ∃ w : V, σ[i]? = some (some w) ∧ RV G S ρ v w
theorem SlR.mono {G : Gt} {S S' : Hp} {ρ ρ' : List Addr} {σI : Sg} {σ : St} (s : Same S S') (h : ρ <+: ρ') (r : SlR G S ρ σI σ) : SlR G S' ρ' σI σ :=
  ⟨r.1, fun i v e => let ⟨w, a, b⟩ := r.2 i v e; ⟨w, a, b.mono s h⟩⟩
theorem SlR.set {G : Gt} {S : Hp} {ρ : List Addr} {σI : Sg} {σ : St} (r : SlR G S ρ σI σ) {v : Val} {w : V} (q : RV G S ρ v w) (i : Nat) : SlR G S ρ (σI.set i (some v)) (σ.set i (some w)) := by
  refine ⟨by rw [List.length_set, List.length_set]; exact r.1, fun j x e => ?_⟩
  by_cases hj : i = j
  · subst hj
    by_cases hl : i < σI.length
    · rw [List.getElem?_set_self hl] at e; cases e
      exact ⟨w, by rw [List.getElem?_set_self (by rw [← r.1]; exact hl)], q⟩
    · rw [List.getElem?_eq_none (by simpa using hl)] at e; cases e
  · rw [List.getElem?_set_ne hj] at e ⊢
    exact r.2 j x e
theorem SlR.setN {G : Gt} {S : Hp} {ρ : List Addr} {σI : Sg} {σ : St} (r : SlR G S ρ σI σ) (i : Nat) : SlR G S ρ (σI.set i none) (σ.set i none) := by
  refine ⟨by rw [List.length_set, List.length_set]; exact r.1, fun j x e => ?_⟩
  by_cases hj : i = j
  · subst hj
    by_cases hl : i < σI.length
    · rw [List.getElem?_set_self hl] at e; cases e
    · rw [List.getElem?_eq_none (by simpa using hl)] at e; cases e
  · rw [List.getElem?_set_ne hj] at e ⊢
    exact r.2 j x e
/-- what was done since: more is fixed (of what was not there), more objects -/
structure Step (B S : Hp) (ρ : List Addr) (S' : Hp) (ρ' : List Addr) : Prop where
  s : Same S S'
  r : ρ <+: ρ'
  n : ∀ p, S' p ≠ none → S p ≠ none ∨ B p = none
theorem Step.refl {B S : Hp} {ρ : List Addr} : Step B S ρ S ρ := ⟨Same.refl S, List.prefix_refl _, fun _ h => .inl h⟩
theorem Step.trans {B S S1 S2 : Hp} {ρ ρ1 ρ2 : List Addr} (a : Step B S ρ S1 ρ1) (b : Step B S1 ρ1 S2 ρ2) : Step B S ρ S2 ρ2 :=
  ⟨a.s.trans b.s, a.r.trans b.r, fun p h => (b.n p h).elim (a.n p) .inr⟩
section
variable {G : Gt} {B S S' : Hp} {ρ ρ' : List Addr} {st : Sto} {H H' : Hp}
/-- a new fixed object -/
theorem HR.fix (R : HR G B S ρ st H) {p : Addr} (hp : H p = none) (o : HO) : HR G B (upd S p o) ρ st (upd H p o) ∧ Step B S ρ (upd S p o) ρ := by
  have sH : Same H (upd H p o) := fun b u e => by rw [upd_ne (ne_of_none e hp)]; exact e
  have hS : S p = none := R.s.free hp
  have sS : Same S (upd S p o) := fun b u e => by rw [upd_ne (ne_of_none e hS)]; exact e
  have hB : B p = none := R.b.free hp
  refine ⟨⟨R.b.trans sH, fun b u e => ?_, R.nd, R.len, fun i q hq => ?_, fun i q ob h1 h2 => ?_⟩, ⟨sS, List.prefix_refl _, fun q h => ?_⟩⟩
  · by_cases hb : b = p
    · subst hb; rw [upd_same] at e ⊢; exact e
    · rw [upd_ne hb] at e ⊢; exact R.s b u e
  · have hi := (List.getElem?_eq_some_iff.mp hq).1
    have : ∃ ob, st[i]? = some ob := ⟨st[i]'(by rw [← R.len]; exact hi), by rw [List.getElem?_eq_getElem]⟩
    obtain ⟨ob, ho⟩ := this
    have z : q ≠ p := by
      rintro rfl
      have q2 := R.ob i q ob hq ho
      cases ob with
      | lst vs => obtain ⟨ws, a, _⟩ := q2; rw [hp] at a; cases a
      | ins c fs => obtain ⟨_, _, ws, a, _⟩ := q2; rw [hp] at a; cases a
    rw [upd_ne z]; exact R.fr i q hq
  · exact (R.ob i q ob h1 h2).mono sS (List.prefix_refl _) (sH q)
  · by_cases hq : q = p
    · subst hq; exact .inr hB
    · rw [upd_ne hq] at h; exact .inl h
/-- a new object of the small store -/
theorem HR.new (R : HR G B S ρ st H) {p : Addr} (hp : H p = none) {vs : List Val} {ws : List V} (r : RVs G S ρ vs ws) : HR G B S (ρ ++ [p]) (st ++ [.lst vs]) (upd H p (.lst ws)) ∧ Step B S ρ S (ρ ++ [p]) := by
  have sH : Same H (upd H p (.lst ws)) := fun b u e => by rw [upd_ne (ne_of_none e hp)]; exact e
  have hS : S p = none := R.s.free hp
  have hB : B p = none := R.b.free hp
  have pr : ρ <+: ρ ++ [p] := List.prefix_append _ _
  have nin : p ∉ ρ := fun hm => by
    obtain ⟨i, hi, e⟩ := List.mem_iff_getElem.mp hm
    have e1 : ρ[i]? = some p := by rw [List.getElem?_eq_getElem hi, e]
    have h2 : i < st.length := by rw [← R.len]; exact hi
    have q2 := R.ob i p (st[i]) e1 (by rw [List.getElem?_eq_getElem h2])
    revert q2
    cases st[i] with
    | lst vs => rintro ⟨ws, a, _⟩; rw [hp] at a; cases a
    | ins c fs => rintro ⟨_, _, ws, a, _⟩; rw [hp] at a; cases a
  refine ⟨⟨R.b.trans sH, R.s.trans sH, ?_, by simp [R.len], fun i q hq => ?_, fun i q ob h1 h2 => ?_⟩, ⟨Same.refl _, pr, fun q h => .inl h⟩⟩
  · exact List.nodup_append.mpr ⟨R.nd, by simp, fun a ha b hb => by simp at hb; subst hb; rintro rfl; exact nin ha⟩
  · by_cases hi : i < ρ.length
    · rw [List.getElem?_append_left hi] at hq; exact R.fr i q hq
    · rw [List.getElem?_append_right (by omega)] at hq
      have : i - ρ.length = 0 := by
        by_cases h0 : i - ρ.length = 0
        · exact h0
        · rw [List.getElem?_eq_none (by simp; omega)] at hq; cases hq
      rw [this] at hq; simp at hq; subst hq; exact ⟨hS, hB⟩
  · by_cases hi : i < ρ.length
    · rw [List.getElem?_append_left hi] at h1
      rw [List.getElem?_append_left (by rw [← R.len]; exact hi)] at h2
      exact (R.ob i q ob h1 h2).mono (Same.refl _) pr (sH q)
    · rw [List.getElem?_append_right (by omega)] at h1
      have h0 : i - ρ.length = 0 := by
        by_cases h0 : i - ρ.length = 0
        · exact h0
        · rw [List.getElem?_eq_none (by simp; omega)] at h1; cases h1
      rw [h0] at h1; simp at h1; subst h1
      rw [List.getElem?_append_right (by rw [← R.len]; omega), ← R.len, h0] at h2
      simp at h2; subst h2
      exact ⟨ws, upd_same, r.mono (Same.refl _) pr⟩
theorem HR.ne_of_ix (R : HR G B S ρ st H) {i j : Nat} {p q : Addr} (h : i ≠ j) (h1 : ρ[i]? = some p) (h2 : ρ[j]? = some q) : p ≠ q := by
  rintro rfl
  obtain ⟨a1, e1⟩ := List.getElem?_eq_some_iff.mp h1
  obtain ⟨a2, e2⟩ := List.getElem?_eq_some_iff.mp h2
  exact h ((List.getElem_inj R.nd).mp (e1.trans e2.symm))
/-- an object of the small store is changed -/
theorem HR.put (R : HR G B S ρ st H) {i : Nat} {p : Addr} (hi : ρ[i]? = some p) {o : HO} {ob : Ob} (hl : ObR G S ρ (upd H p o) p ob) : HR G B S ρ (st.set i ob) (upd H p o) := by
  obtain ⟨hS, hB⟩ := R.fr i p hi
  have hil : i < st.length := by rw [← R.len]; exact (List.getElem?_eq_some_iff.mp hi).1
  refine ⟨fun b u e => by rw [upd_ne (ne_of_none e hB)]; exact R.b b u e, fun b u e => by rw [upd_ne (ne_of_none e hS)]; exact R.s b u e, R.nd, by rw [List.length_set]; exact R.len, R.fr, fun j q ob' h1 h2 => ?_⟩
  by_cases hj : i = j
  · subst hj
    rw [hi] at h1; cases h1
    rw [List.getElem?_set_self hil] at h2; cases h2
    exact hl
  · rw [List.getElem?_set_ne hj] at h2
    have z := R.ne_of_ix hj hi h1
    exact (R.ob j q ob' h1 h2).mono (Same.refl _) (List.prefix_refl _) (fun u e => by rw [upd_ne z.symm]; exact e)
theorem HR.get (R : HR G B S ρ st H) {i : Nat} {p : Addr} {vs : List Val} (h : ρ[i]? = some p) (e : st[i]? = some (.lst vs)) : ∃ ws, H p = some (.lst ws) ∧ RVs G S ρ vs ws := R.ob i p _ h e
end
end Bd

namespace Bd
open PySem L2
abbrev gt (X : Cx) (ξ : Exo) : Gt := ⟨X.K, X.mg, ξ⟩
/-- what holds behind a piece of the small machine, however its new objects lie -/
def After {α : Type} (G : Gt) (W : WX) (B S : Hp) (ρ : List Addr) (σ : St) (o : Out α) (P : α → Hp → List Addr → Sto → Hp → Prop) : Prop :=
  match o with
  | .ok a st' => ∀ S' ρ' H', Step B S ρ S' ρ' → HR G B S' ρ' st' H' → P a S' ρ' st' H'
  | .er c st' => ∀ S' ρ' H' C, Step B S ρ S' ρ' → HR G B S' ρ' st' H' → G.mg c = some (.ref C) → W (.ref C) none σ H'
  | .no => False
section
variable {α β : Type} {G : Gt} {W : WX} {B S : Hp} {ρ : List Addr} {σ : St}
theorem After.imp {o : Out α} {P P' : α → Hp → List Addr → Sto → Hp → Prop} (h : After G W B S ρ σ o P) (f : ∀ a S' ρ' st' H', Step B S ρ S' ρ' → HR G B S' ρ' st' H' → P a S' ρ' st' H' → P' a S' ρ' st' H') : After G W B S ρ σ o P' := by
  cases o with
  | ok a st => exact fun S' ρ' H' s r => f a S' ρ' st H' s r (h S' ρ' H' s r)
  | er c st => exact h
  | no => exact h
theorem After.bind {o : Out α} {k : α → Sto → Out β} {P : β → Hp → List Addr → Sto → Hp → Prop} (h : After G W B S ρ σ (o.bind k) P) :
    After G W B S ρ σ o fun a S1 ρ1 st1 H1 => After G W B S1 ρ1 σ (k a st1) P := by
  cases o with
  | ok a st =>
    intro S' ρ' H' s r
    have h : After G W B S ρ σ (k a st) P := h
    show After G W B S' ρ' σ (k a st) P
    revert h
    cases k a st with
    | ok b st2 => exact fun h S2 ρ2 H2 s2 r2 => h S2 ρ2 H2 (s.trans s2) r2
    | er c st2 => exact fun h S2 ρ2 H2 C s2 r2 => h S2 ρ2 H2 C (s.trans s2) r2
    | no => exact fun h => h
  | er c st => exact h
  | no => exact h
theorem After.here {a : α} {st : Sto} {P : α → Hp → List Addr → Sto → Hp → Prop} {H : Hp} (h : After G W B S ρ σ (.ok a st) P) (r : HR G B S ρ st H) : P a S ρ st H := h S ρ H Step.refl r
theorem After.at {a : α} {st : Sto} {P : α → Hp → List Addr → Sto → Hp → Prop} {S' : Hp} {ρ' : List Addr} {H : Hp} (h : After G W B S ρ σ (.ok a st) P) (s : Step B S ρ S' ρ') (r : HR G B S' ρ' st H) : P a S' ρ' st H := h S' ρ' H s r
/-- the base may be made greater -/
theorem Step.base {B B' S S' : Hp} {ρ ρ' : List Addr} (h : ∀ p, B' p = none → B p = none) (s : Step B' S ρ S' ρ') : Step B S ρ S' ρ' := ⟨s.s, s.r, fun p q => (s.n p q).imp id (h p)⟩
end
def TI (G : Gt) (W : WX) (f : EI) : TE := fun σ H Q => ∃ B S ρ σI st, HR G B S ρ st H ∧ SlR G S ρ σI σ ∧ After G W B S ρ σ (f σI st) fun v S' ρ' _ H' => ∀ w, RV G S' ρ' v w → Q w H'
def TB (G : Gt) (W : WX) (f : BI) : TT := fun σ H Q => ∃ B S ρ σI st, HR G B S ρ st H ∧ SlR G S ρ σI σ ∧ After G W B S ρ σ (f σI st) fun v _ _ _ H' => Q v H'
def TL (G : Gt) (W : WX) (f : AI) : TA := fun σ H Q => ∃ B S ρ σI st, HR G B S ρ st H ∧ SlR G S ρ σI σ ∧ After G W B S ρ σ (f σI st) fun v S' ρ' _ H' => ∀ w, RVs G S' ρ' v w → Q w H'
theorem _root_.L2.PE.weak {X : Cx} {e : Expr} {t t' : TE} (h : PE X e t) (f : ∀ σ H Q, t' σ H Q → t σ H Q) : PE X e t' := ⟨fun pins s σ H Q I q => h.run pins s σ H Q I (f _ _ _ q)⟩
theorem _root_.L2.PT.weak {X : Cx} {e : Expr} {t t' : TT} (h : PT X e t) (f : ∀ σ H Q, t' σ H Q → t σ H Q) : PT X e t' := ⟨fun pins s σ H Q I q => h.run pins s σ H Q I (f _ _ _ q)⟩
theorem _root_.L2.PW.weak {X : Cx} {e : Expr} {t t' : TT} (h : PW X e t) (f : ∀ σ H Q, t' σ H Q → t σ H Q) : PW X e t' := ⟨fun wh pins s σ H Q I q => h.run wh pins s σ H Q I (f _ _ _ q)⟩
theorem _root_.L2.PA.weak {X : Cx} {e : List Expr} {t t' : TA} (h : PA X e t) (f : ∀ σ H Q, t' σ H Q → t σ H Q) : PA X e t' := ⟨fun pos pins s σ H Q I q => h.run pos pins s σ H Q I (f _ _ _ q)⟩
theorem _root_.L2.PS.weak {X : Cx} {e : Stmt} {t t' : TS} (h : PS X e t) (f : ∀ D σ H, t' D σ H → t D σ H) : PS X e t' := ⟨fun pins s σ H D I q => h.run pins s σ H D I (f _ _ _ q)⟩
theorem _root_.L2.PSs.weak {X : Cx} {e : List Stmt} {t t' : TS} (h : PSs X e t) (f : ∀ D σ H, t' D σ H → t D σ H) : PSs X e t' := ⟨fun pins s σ H D I q => h.run pins s σ H D I (f _ _ _ q)⟩

/-! ## expressions -/
def eVar (i : Nat) : EI := fun σ st => match σ[i]? with
  | some (some v) => .ok v st
  | _ => .no
def eC (v : Val) : EI := fun _ st => .ok v st
def eBin (k : Val → Val → Sto → Out Val) (a b : EI) : EI := fun σ st => (a σ st).bind fun x st1 => (b σ st1).bind fun y st2 => k x y st2
def eUn (k : Val → Sto → Out Val) (a : EI) : EI := fun σ st => (a σ st).bind fun x st1 => k x st1
def bOf (f : EI) : BI := fun σ st => (f σ st).bind fun v st => match v with
  | .bl b => .ok b st
  | _ => .no
section
variable {X : Cx} {ξ : Exo} {W : WX} {e a b c : Expr} {f fa fb fc : EI} {pos : Pos}
theorem i_var (i : Nat) {x : Str} (hN : X.N[i]? = some x := by rfl) (hv : Vis X.env.scope x := by first | exact Or.inl rfl | exact Or.inr (Or.inl rfl) | exact Or.inr (Or.inr rfl)) (hd : (x == ("__debug__" : Str)) = false := by decide)
    (hcd : (x == ("__classdict__" : Str)) = false := by decide) : PE X (.Name x pos) (TI (gt X ξ) W (eVar i)) := by
  refine (pe_var hN hv hd hcd).weak fun σ H Q ⟨B, S, ρ, σI, st, R, L, h⟩ => ?_
  unfold eVar at h
  split at h
  · rename_i v e
    obtain ⟨w, e1, r⟩ := L.2 i v e
    exact ⟨w, e1, h.here R w r⟩
  · exact h.elim
theorem tc_weak {v : Val} {w : V} (r : ∀ G S ρ, RV G S ρ v w) {σ : St} {H : Hp} {Q : VK} (h : TI (gt X ξ) W (eC v) σ H Q) : tC w σ H Q := by
  obtain ⟨B, S, ρ, σI, st, R, L, h⟩ := h
  exact h.here R w (r _ _ _)
theorem i_int {i j} : PE X (.Constant (.int i) j pos) (TI (gt X ξ) W (eC (.int i))) := pe_int.weak fun _ _ _ h => tc_weak (fun _ _ _ => .int i) h
theorem i_bl {i j} : PE X (.Constant (.bool i) j pos) (TI (gt X ξ) W (eC (.bl i))) := pe_bl.weak fun _ _ _ h => tc_weak (fun _ _ _ => .bl i) h
theorem i_non {j} : PE X (.Constant .none j pos) (TI (gt X ξ) W (eC .non)) := pe_non.weak fun _ _ _ h => tc_weak (fun _ _ _ => .non) h
theorem i_str {i j} : PE X (.Constant (.str i) j pos) (TI (gt X ξ) W (eC (.str i))) := pe_str.weak fun _ _ _ h => tc_weak (fun _ _ _ => .str i) h
/-- a name of the module, as a value -/
theorem i_gl {x : Str} {u : Value} {w : V} (hg : Gl X x) (hm : X.mg x = some u) (r : RelV w u) (hd : (x == ("__debug__" : Str)) = false := by decide) : PE X (.Name x pos) (TI (gt X ξ) W (eC (.gl x))) :=
  (pe_glob hg hm r hd).weak fun σ H Q ⟨B, S, ρ, σI, st, R, L, h⟩ => h.here R w (.gl (G := gt X ξ) hm r)
/-- a module's number -/
theorem i_glInt {x : Str} {i : Int} {t : Tok} (hg : Gl X x) (hm : X.mg x = some (.int i t)) (hd : (x == ("__debug__" : Str)) = false := by decide) : PE X (.Name x pos) (TI (gt X ξ) W (eC (.int i))) :=
  (pe_glob (v := .int i) hg hm ⟨_, rfl⟩ hd).weak fun σ H Q ⟨B, S, ρ, σI, st, R, L, h⟩ => h.here R _ (.int i)

/-! ### one and two values -/
/-- what an operation on two values must bear -/
def Bears2 (X : Cx) (ξ : Exo) (W : WX) (r : R2) (k : Val → Val → Sto → Out Val) : Prop :=
  ∀ (B S : Hp) (ρ : List Addr) (st : Sto) (σ : St) (H : Hp) (x y : Val) (v w : V) (Q : VK), HR (gt X ξ) B S ρ st H → RV (gt X ξ) S ρ x v → RV (gt X ξ) S ρ y w → After (gt X ξ) W B S ρ σ (k x y st) (fun z S' ρ' _ H' => ∀ u, RV (gt X ξ) S' ρ' z u → Q u H') → r v w H Q
theorem two_imp {r : R2} {k : Val → Val → Sto → Out Val} (hk : Bears2 X ξ W r k) {σ : St} {H : Hp} {Q : VK} (h : TI (gt X ξ) W (eBin k fa fb) σ H Q) : tOp r (TI (gt X ξ) W fa) (TI (gt X ξ) W fb) σ H Q := by
  obtain ⟨B, S, ρ, σI, st, R, L, h⟩ := h
  refine ⟨B, S, ρ, σI, st, R, L, h.bind.imp fun x S1 ρ1 st1 H1 s1 R1 h1 w1 r1 => ?_⟩
  refine ⟨B, S1, ρ1, σI, st1, R1, L.mono s1.s s1.r, h1.bind.imp fun y S2 ρ2 st2 H2 s2 R2 h2 w2 r2 => ?_⟩
  exact hk B S2 ρ2 st2 σ H2 x y w1 w2 Q R2 (r1.mono s2.s s2.r) r2 h2
theorem i_bin {op : Operator} {r : R2} {k : Val → Val → Sto → Out Val} (ho : OpR X (binaryOp op) r) (hk : Bears2 X ξ W r k) (ha : PE X a (TI (gt X ξ) W fa)) (hb : PE X b (TI (gt X ξ) W fb)) : PE X (.BinOp a op b pos) (TI (gt X ξ) W (eBin k fa fb)) :=
  (pe_op ho ha hb).weak fun _ _ _ h => two_imp hk h
theorem i_cmp {op : CmpOp} {r : R2} {k : Val → Val → Sto → Out Val} (ho : OpR X (compareOp op) r) (hk : Bears2 X ξ W r k) (ha : PE X a (TI (gt X ξ) W fa)) (hb : PE X b (TI (gt X ξ) W fb)) (hm : behindInMarks op b = false) : PE X (.Compare a [op] [b] pos) (TI (gt X ξ) W (eBin k fa fb)) :=
  (pe_cmpR ho ha hb hm).weak fun _ _ _ h => two_imp hk h
theorem bOf_imp {σ : St} {H : Hp} {Q : Bool → Hp → Prop} (h : TB (gt X ξ) W (bOf f) σ H Q) : TI (gt X ξ) W f σ H fun x H1 => ∃ k, x = .bl k ∧ Q k H1 := by
  obtain ⟨B, S, ρ, σI, st, R, L, h⟩ := h
  refine ⟨B, S, ρ, σI, st, R, L, h.bind.imp fun x S1 ρ1 st1 H1 s1 R1 h1 w1 r1 => ?_⟩
  cases x with
  | bl b => cases r1; exact ⟨b, rfl, h1.here R1⟩
  | _ => exact h1.elim
theorem t_cmp {op : CmpOp} {r : R2} {k : Val → Val → Sto → Out Val} (ho : OpR X (compareOp op) r) (hk : Bears2 X ξ W r k) (ha : PE X a (TI (gt X ξ) W fa)) (hb : PE X b (TI (gt X ξ) W fb)) (hm : behindInMarks op b = false) : PT X (.Compare a [op] [b] pos) (TB (gt X ξ) W (bOf (eBin k fa fb))) :=
  (pt_cmpR ho ha hb hm).weak fun _ _ _ h => two_imp hk (bOf_imp h)
def Bears1 (X : Cx) (ξ : Exo) (W : WX) (r : V → Hp → VK → Prop) (k : Val → Sto → Out Val) : Prop :=
  ∀ (B S : Hp) (ρ : List Addr) (st : Sto) (σ : St) (H : Hp) (x : Val) (v : V) (Q : VK), HR (gt X ξ) B S ρ st H → RV (gt X ξ) S ρ x v → After (gt X ξ) W B S ρ σ (k x st) (fun z S' ρ' _ H' => ∀ u, RV (gt X ξ) S' ρ' z u → Q u H') → r v H Q
theorem one_imp {r : V → Hp → VK → Prop} {k : Val → Sto → Out Val} (hk : Bears1 X ξ W r k) {σ : St} {H : Hp} {Q : VK} (h : TI (gt X ξ) W (eUn k fa) σ H Q) : tUn r (TI (gt X ξ) W fa) σ H Q := by
  obtain ⟨B, S, ρ, σI, st, R, L, h⟩ := h
  refine ⟨B, S, ρ, σI, st, R, L, h.bind.imp fun x S1 ρ1 st1 H1 s1 R1 h1 w1 r1 => ?_⟩
  exact hk B S1 ρ1 st1 σ H1 x w1 Q R1 r1 h1
theorem i_un {op : UnaryOp} {r : V → Hp → VK → Prop} {k : Val → Sto → Out Val} (ho : UnR X (unaryOp op) r) (hk : Bears1 X ξ W r k) (ha : PE X a (TI (gt X ξ) W fa)) : PE X (.UnaryOp op a pos) (TI (gt X ξ) W (eUn k fa)) :=
  (pe_un ho ha).weak fun _ _ _ h => one_imp hk h

/-! ### numbers -/
def kI (g : Int → Int → Val) : Val → Val → Sto → Out Val := fun x y st => match x, y with
  | .int i, .int j => .ok (g i j) st
  | _, _ => .no
def kIc (c : Int → Int → Bool) (g : Int → Int → Val) : Val → Val → Sto → Out Val := fun x y st => match x, y with
  | .int i, .int j => if c i j = true then .ok (g i j) st else .no
  | _, _ => .no
theorem kI_bears {g : Int → Int → Val} {g' : Int → Int → V} (hg : ∀ i j S ρ, RV (gt X ξ) S ρ (g i j) (g' i j)) : Bears2 X ξ W (rI0 g') (kI g) := by
  intro B S ρ st σ H x y v w Q R rx ry h
  unfold kI at h
  split at h
  · cases rx; cases ry
    exact ⟨_, _, rfl, rfl, h.here R _ (hg _ _ _ _)⟩
  · exact h.elim
theorem kIc_bears {c : Int → Int → Bool} {C : Int → Int → Prop} (hc : ∀ i j, c i j = true → C i j) {g : Int → Int → Val} {g' : Int → Int → V} (hg : ∀ i j S ρ, RV (gt X ξ) S ρ (g i j) (g' i j)) : Bears2 X ξ W (rI C g') (kIc c g) := by
  intro B S ρ st σ H x y v w Q R rx ry h
  unfold kIc at h
  split at h
  · split at h
    · rename_i hh
      cases rx; cases ry
      exact ⟨_, _, rfl, rfl, hc _ _ hh, h.here R _ (hg _ _ _ _)⟩
    · exact h.elim
  · exact h.elim
abbrev kSub := kI fun i j => .int (i - j)
abbrev kLt := kI fun i j => .bl (decide (i < j))
abbrev kLe := kI fun i j => .bl (decide (i ≤ j))
abbrev kGt := kI fun i j => .bl (decide (j < i))
abbrev kGe := kI fun i j => .bl (decide (j ≤ i))
/-- the sizes of factors -/
def mulOk (i j : Int) : Bool := decide (i.natAbs.log2 + j.natAbs.log2 < 134000000)
abbrev kMul := kIc mulOk fun i j => .int (i * j)
abbrev kMod := kIc (fun _ j => decide (j ≠ 0)) fun i j => .int (i.fmod j)
abbrev kDiv := kIc (fun i j => decide (j ≠ 0) && !Builtin.divisionGoesByPylong i j) fun i j => .int (i.fdiv j)
abbrev kPow := kIc (fun i j => decide (0 ≤ j ∧ j ≤ 1000000 ∧ i.natAbs < 2 ^ 64)) fun i j => .int (i ^ j.toNat)
theorem mulOk_ok {i j : Int} (h : mulOk i j = true) : IntMulOk i j := by
  have h : i.natAbs.log2 + j.natAbs.log2 < 134000000 := of_decide_eq_true h
  have b : ∀ x : Int, Builtin.Int.intBits x ≤ x.natAbs.log2 + 1 := fun x => by
    unfold Builtin.Int.intBits
    split <;> omega
  have h1 := b i
  have h2 := b j
  have e : bitsLine = 134217728 := by decide
  unfold IntMulOk
  intro z
  rw [Bool.and_eq_true] at z
  have z2 := z.2
  unfold Builtin.Int.intTooBig at z2
  have z3 := of_decide_eq_true z2
  rw [e] at z3
  omega
theorem op_mulB : OpR X (binaryOp .Mult) (rI (fun i j => mulOk i j = true) fun i j => .int (i * j)) := opI fun _ _ _ _ _ _ _ hc q => PyProof.Rows.mul_int q (mulOk_ok hc)
theorem op_fdivB : OpR X (binaryOp .FloorDiv) (rI (fun i j => j ≠ 0 ∧ Builtin.divisionGoesByPylong i j = false) fun i j => .int (i.fdiv j)) := opI fun _ _ _ _ _ _ _ hc q => PyProof.Rows.floordiv_int hc.1 q (.inl hc.2)
end
end Bd

namespace Bd
open PySem L2
/-! ### what may be read of a value -/
def obLst : Option Ob → Option (List Val)
  | some (.lst vs) => some vs
  | _ => none
/-- the items of a list (not of the script) -/
def lstOf (st : Sto) : Val → Option (List Val)
  | .lst vs => some vs
  | .ref i => obLst st[i]?
  | _ => none
/-- the items of a list, a tuple, the script -/
def seqOf (st : Sto) : Val → Option (List Val)
  | .lst vs => some vs
  | .tup vs => some vs
  | .scr vs => some vs
  | .ref i => obLst st[i]?
  | _ => none
def listOf (st : Sto) : Val → Option (List Val)
  | .lst vs => some vs
  | .scr vs => some vs
  | .ref i => obLst st[i]?
  | _ => none
theorem obLst_some {o : Option Ob} {vs : List Val} (h : obLst o = some vs) : o = some (.lst vs) := by
  unfold obLst at h
  split at h
  · cases h; rfl
  · cases h
section
variable {G : Gt} {B S : Hp} {ρ : List Addr} {st : Sto} {H : Hp} {v : Val} {w : V} {vs : List Val}
theorem ref_get (R : HR G B S ρ st H) {i : Nat} {p : Addr} (h : ρ[i]? = some p) (e : obLst st[i]? = some vs) : ∃ ws, H p = some (.lst ws) ∧ RVs G S ρ vs ws := R.get h (obLst_some e)
theorem lstOf_get (R : HR G B S ρ st H) (r : RV G S ρ v w) (e : lstOf st v = some vs) : ∃ p ws, w = .ref p ∧ H p = some (.lst ws) ∧ RVs G S ρ vs ws := by
  cases r with
  | lst a b => cases e; exact ⟨_, _, rfl, R.s _ _ a, b⟩
  | ref a => obtain ⟨ws, h1, h2⟩ := ref_get R a e; exact ⟨_, ws, rfl, h1, h2⟩
  | _ => cases e
theorem listOf_get (R : HR G B S ρ st H) (r : RV G S ρ v w) (e : listOf st v = some vs) : ∃ p ws, w = .ref p ∧ SqL G.K H p ws ∧ RVs G S ρ vs ws := by
  cases r with
  | lst a b => cases e; exact ⟨_, _, rfl, SqL.of (R.s _ _ a), b⟩
  | scr a b => cases e; exact ⟨_, _, rfl, L2.Same.seq R.s a, b⟩
  | ref a => obtain ⟨ws, h1, h2⟩ := ref_get R a e; exact ⟨_, ws, rfl, SqL.of h1, h2⟩
  | _ => cases e
theorem seqOf_get (R : HR G B S ρ st H) (r : RV G S ρ v w) (e : seqOf st v = some vs) : ∃ p ws, w = .ref p ∧ (SqL G.K H p ws ∨ SqT G.K H p ws) ∧ RVs G S ρ vs ws := by
  cases r with
  | lst a b => cases e; exact ⟨_, _, rfl, .inl (SqL.of (R.s _ _ a)), b⟩
  | scr a b => cases e; exact ⟨_, _, rfl, .inl (L2.Same.seq R.s a), b⟩
  | tup a b => cases e; exact ⟨_, _, rfl, .inr (SqT.of (R.s _ _ a)), b⟩
  | ref a => obtain ⟨ws, h1, h2⟩ := ref_get R a e; exact ⟨_, ws, rfl, .inl (SqL.of h1), h2⟩
  | _ => cases e
theorem RVs.ints : ∀ {ns : List Int} {ws : List V}, RVs G S ρ (ns.map Val.int) ws → ws = ns.map V.int
  | [], _, .nil => rfl
  | _ :: _, _, .cons a b => by cases a; rw [RVs.ints b]; rfl
theorem RVs.bls : ∀ {ns : List Bool} {ws : List V}, RVs G S ρ (ns.map Val.bl) ws → ws = ns.map V.bl
  | [], _, .nil => rfl
  | _ :: _, _, .cons a b => by cases a; rw [RVs.bls b]; rfl
theorem RVs.atI {ws : List V} (r : RVs G S ρ vs ws) {i : Int} (e : atI vs i = some v) : ∃ w, L2.atI ws i = some w ∧ RV G S ρ v w := by
  unfold L2.atI at e ⊢
  rw [← r.length]
  obtain ⟨j, h1, h2⟩ := Option.bind_eq_some_iff.mp e
  rw [h1]
  exact r.get h2
end
/-! ### == on data -/
mutual
def toD (st : Sto) : Nat → Val → Option PyData
  | 0, _ => none
  | _ + 1, .non => some .none
  | _ + 1, .bl b => some (.bool b)
  | _ + 1, .int i => some (.int i)
  | _ + 1, .str x => if PyData.strOk x = true then some (.str x) else none
  | n + 1, .lst vs => (toDs st n vs).map .list
  | n + 1, .scr vs => (toDs st n vs).map .list
  | n + 1, .tup vs => (toDs st n vs).map .tuple
  | n + 1, .ref i => match st[i]? with
    | some (.lst vs) => (toDs st n vs).map .list
    | _ => none
  | _ + 1, _ => none
def toDs (st : Sto) : Nat → List Val → Option (List PyData)
  | _, [] => some []
  | 0, _ :: _ => none
  | n + 1, v :: vs => match toD st n v, toDs st (n + 1) vs with
    | some d, some ds => some (d :: ds)
    | _, _ => none
end
section
variable {G : Gt} {B S : Hp} {ρ : List Addr} {st : Sto} {H : Hp}
theorem toD_all (R : HR G B S ρ st H) : ∀ n, (∀ v d w, toD st n v = some d → RV G S ρ v w → Dp G.K H w d ∧ d.canLay0 = true ∧ d.depth ≤ n) ∧
    (∀ vs ds ws, toDs st n vs = some ds → RVs G S ρ vs ws → DpAll G.K H ws ds ∧ PyData.canLayAll0 ds = true ∧ PyData.depthAll ds ≤ n) := by
  intro n
  induction n with
  | zero =>
    refine ⟨fun v d w e _ => by simp [toD] at e, fun vs ds ws e r => ?_⟩
    cases vs with
    | nil => cases r; simp [toDs] at e; subst e; exact ⟨.nil, by simp [PyData.canLayAll0], by simp [PyData.depthAll]⟩
    | cons v vs => simp [toDs] at e
  | succ n ih =>
    obtain ⟨ih1, ih2⟩ := ih
    constructor
    · intro v d w e r
      have lists : ∀ {vs : List Val} {ws : List V} {ds : List PyData}, toDs st n vs = some ds → RVs G S ρ vs ws → DpAll G.K H ws ds ∧ PyData.canLayAll0 ds = true ∧ PyData.depthAll ds ≤ n := fun e r => ih2 _ _ _ e r
      cases r with
      | non => simp [toD] at e; subst e; exact ⟨.non, by simp [PyData.canLay0], by simp [PyData.depth]⟩
      | bl b => simp [toD] at e; subst e; exact ⟨.bl b, by simp [PyData.canLay0], by simp [PyData.depth]⟩
      | int i => simp [toD] at e; subst e; exact ⟨.int i, by simp [PyData.canLay0], by simp [PyData.depth]⟩
      | str x =>
        simp only [toD] at e
        split at e
        · rename_i hx
          cases e; exact ⟨.str x, by simpa [PyData.canLay0] using hx, by simp [PyData.depth]⟩
        · cases e
      | lst a b =>
        simp only [toD] at e
        obtain ⟨ds, e1, rfl⟩ := Option.map_eq_some_iff.mp e
        obtain ⟨q1, q2, q3⟩ := lists e1 b
        exact ⟨.lst (SqL.of (R.s _ _ a)) q1, by simpa [PyData.canLay0] using q2, by simp [PyData.depth]; exact q3⟩
      | scr a b =>
        simp only [toD] at e
        obtain ⟨ds, e1, rfl⟩ := Option.map_eq_some_iff.mp e
        obtain ⟨q1, q2, q3⟩ := lists e1 b
        exact ⟨.lst (L2.Same.seq R.s a) q1, by simpa [PyData.canLay0] using q2, by simp [PyData.depth]; exact q3⟩
      | tup a b =>
        simp only [toD] at e
        obtain ⟨ds, e1, rfl⟩ := Option.map_eq_some_iff.mp e
        obtain ⟨q1, q2, q3⟩ := lists e1 b
        exact ⟨.tup (SqT.of (R.s _ _ a)) q1, by simpa [PyData.canLay0] using q2, by simp [PyData.depth]; exact q3⟩
      | ref a =>
        simp only [toD] at e
        split at e
        · rename_i vs hv
          obtain ⟨ds, e1, rfl⟩ := Option.map_eq_some_iff.mp e
          obtain ⟨ws, h1, h2⟩ := R.get a hv
          obtain ⟨q1, q2, q3⟩ := lists e1 h2
          exact ⟨.lst (SqL.of h1) q1, by simpa [PyData.canLay0] using q2, by simp [PyData.depth]; exact q3⟩
        · cases e
      | dct a => simp [toD] at e
      | ty t => simp [toD] at e
      | ex t => simp [toD] at e
      | gl a b => simp [toD] at e
      | ins a b c => simp [toD] at e
    · intro vs
      induction vs with
      | nil => intro ds ws e r; cases r; simp [toDs] at e; subst e; exact ⟨.nil, by simp [PyData.canLayAll0], by simp [PyData.depthAll]⟩
      | cons v vs ihv =>
        intro ds ws e r
        cases r with
        | cons r1 r2 =>
          simp only [toDs] at e
          split at e
          · rename_i d ds' e1 e2
            cases e
            obtain ⟨p1, p2, p3⟩ := ih1 _ _ _ e1 r1
            obtain ⟨q1, q2, q3⟩ := ihv _ _ e2 r2
            exact ⟨.cons p1 q1, by simp [PyData.canLayAll0, p2, q2], by simp only [PyData.depthAll]; omega⟩
          · cases e
theorem toD_dp (R : HR G B S ρ st H) {v : Val} {w : V} {d : PyData} (e : toD st 12 v = some d) (r : RV G S ρ v w) : Dp G.K H w d ∧ SeqAt.shaped d = true := by
  obtain ⟨h1, h2, h3⟩ := (toD_all R 12).1 v d w e r
  exact ⟨h1, by unfold SeqAt.shaped; rw [h2, decide_eq_true (by omega : d.depth ≤ 64)]; rfl⟩
end
/-- == -/
def vEq (st : Sto) (x y : Val) : Option Bool := (toD st 12 x).bind fun d => (toD st 12 y).bind fun e => some (d.eqv e)
def kOpt (f : Val → Val → Sto → Option Val) : Val → Val → Sto → Out Val := fun x y st => match f x y st with
  | some v => .ok v st
  | none => .no
abbrev kEq := kOpt fun x y st => (vEq st x y).map .bl
abbrev kNe := kOpt fun x y st => (vEq st x y).map fun b => .bl (!b)
/-- is None -/
def isNon : Val → Option Bool
  | .non => some true
  | .gl _ => none
  | _ => some false
abbrev kIs := kOpt fun x y _ => match y with
  | .non => (isNon x).map .bl
  | _ => none
abbrev kIsNot := kOpt fun x y _ => match y with
  | .non => (isNon x).map fun b => .bl (!b)
  | _ => none
/-- x[i] -/
abbrev kIx := kOpt fun x y st => match y with
  | .int i => (seqOf st x).bind fun vs => atI vs i
  | _ => none
/-- a + b -/
abbrev kAdd := kOpt fun x y st => match x, y with
  | .int i, .int j => some (.int (i + j))
  | _, _ => (lstOf st x).bind fun vs => (lstOf st y).bind fun us => if vs.length + us.length ≤ 1000000 then some (.lst (vs ++ us)) else none
section
variable {X : Cx} {ξ : Exo} {W : WX} {e a b c : Expr} {f fa fb fc : EI} {pos : Pos}
theorem isNon_rv {G : Gt} {S : Hp} {ρ : List Addr} {v : Val} {w : V} {b : Bool} (r : RV G S ρ v w) (e : isNon v = some b) : decide (w = V.non) = b := by
  cases r <;> simp_all [isNon]
theorem kOpt_some {G : Gt} {B S : Hp} {ρ : List Addr} {σ : St} {f : Val → Val → Sto → Option Val} {x y : Val} {st : Sto} {P : Val → Hp → List Addr → Sto → Hp → Prop} (h : After G W B S ρ σ (kOpt f x y st) P) : ∃ z, f x y st = some z ∧ After G W B S ρ σ (.ok z st) P := by
  unfold kOpt at h
  split at h
  · rename_i v e; exact ⟨v, e, h⟩
  · exact h.elim
theorem vEq_some {st : Sto} {x y : Val} {b : Bool} (h : vEq st x y = some b) : ∃ d e, toD st 12 x = some d ∧ toD st 12 y = some e ∧ b = d.eqv e := by
  unfold vEq at h
  obtain ⟨d, h1, h⟩ := Option.bind_eq_some_iff.mp h
  obtain ⟨e, h2, h⟩ := Option.bind_eq_some_iff.mp h
  cases h
  exact ⟨d, e, h1, h2, rfl⟩
theorem kEq_bears : Bears2 X ξ W (rEqD X.K) kEq := by
  intro B S ρ st σ H x y v w Q R rx ry h
  obtain ⟨z, e0, h0⟩ := kOpt_some h
  obtain ⟨b, e, rfl⟩ := Option.map_eq_some_iff.mp e0
  obtain ⟨d, d', e1, e2, rfl⟩ := vEq_some e
  obtain ⟨p1, p2⟩ := toD_dp R e1 rx
  obtain ⟨q1, q2⟩ := toD_dp R e2 ry
  exact ⟨d, d', p1, q1, p2, q2, h0.here R _ (.bl _)⟩
theorem kNe_bears : Bears2 X ξ W (rNeD X.K) kNe := by
  intro B S ρ st σ H x y v w Q R rx ry h
  obtain ⟨z, e0, h0⟩ := kOpt_some h
  obtain ⟨b, e, rfl⟩ := Option.map_eq_some_iff.mp e0
  obtain ⟨d, d', e1, e2, rfl⟩ := vEq_some e
  obtain ⟨p1, p2⟩ := toD_dp R e1 rx
  obtain ⟨q1, q2⟩ := toD_dp R e2 ry
  exact ⟨d, d', p1, q1, p2, q2, h0.here R _ (.bl _)⟩
theorem kIs_bears : Bears2 X ξ W (fun x y H Q => y = V.non ∧ Q (V.bl (decide (x = V.non))) H) kIs := by
  intro B S ρ st σ H x y v w Q R rx ry h
  obtain ⟨z, e0, h0⟩ := kOpt_some h
  split at e0
  · cases ry
    obtain ⟨b, e, rfl⟩ := Option.map_eq_some_iff.mp e0
    rw [isNon_rv rx e]; exact ⟨rfl, h0.here R _ (.bl _)⟩
  · cases e0
theorem kIsNot_bears : Bears2 X ξ W (fun x y H Q => y = V.non ∧ Q (V.bl (!decide (x = V.non))) H) kIsNot := by
  intro B S ρ st σ H x y v w Q R rx ry h
  obtain ⟨z, e0, h0⟩ := kOpt_some h
  split at e0
  · cases ry
    obtain ⟨b, e, rfl⟩ := Option.map_eq_some_iff.mp e0
    rw [isNon_rv rx e]; exact ⟨rfl, h0.here R _ (.bl _)⟩
  · cases e0
theorem kIx_bears : Bears2 X ξ W (fun x y H Q => rIxL X.K x y H Q ∨ rIxT X.K x y H Q) kIx := by
  intro B S ρ st σ H x y v w Q R rx ry h
  obtain ⟨z, e0, h0⟩ := kOpt_some h
  split at e0
  · rename_i i
    cases ry
    obtain ⟨vs, e1, e2⟩ := Option.bind_eq_some_iff.mp e0
    obtain ⟨p, ws, rfl, hp, rr⟩ := seqOf_get R rx e1
    obtain ⟨u, h1, h2⟩ := rr.atI e2
    rcases hp with hp | hp
    · exact .inl ⟨p, ws, i, u, rfl, rfl, hp, h1, h0.here R _ h2⟩
    · exact .inr ⟨p, ws, i, u, rfl, rfl, hp, h1, h0.here R _ h2⟩
  · cases e0
theorem op_addA : OpR X (binaryOp .Add) (fun x y H Q => rI0 (fun i j => V.int (i + j)) x y H Q ∨ rCat x y H Q) := by
  intro pins s σ H x y v u Q I rx ry h
  rcases h with h | h
  · exact op_add pins s σ H x y v u Q I rx ry h
  · exact op_cat pins s σ H x y v u Q I rx ry h
theorem kAdd_bears : Bears2 X ξ W (fun x y H Q => rI0 (fun i j => V.int (i + j)) x y H Q ∨ rCat x y H Q) kAdd := by
  intro B S ρ st σ H x y v w Q R rx ry h
  obtain ⟨z, e0, h0⟩ := kOpt_some h
  split at e0
  · rename_i i j
    cases rx; cases ry; cases e0
    exact .inl ⟨i, j, rfl, rfl, h0.here R _ (.int _)⟩
  · obtain ⟨vs, e1, e3⟩ := Option.bind_eq_some_iff.mp e0
    obtain ⟨us, e2, e⟩ := Option.bind_eq_some_iff.mp e3
    split at e
    · rename_i hz
      cases e
      obtain ⟨p, ws, rfl, hp, r1⟩ := lstOf_get R rx e1
      obtain ⟨q, zs, rfl, hq, r2⟩ := lstOf_get R ry e2
      refine .inr ⟨p, q, ws, zs, rfl, rfl, hp, hq, ?_, fun n hn => ?_⟩
      · rw [← r1.length, ← r2.length, sizeLine_eq]; omega
      · obtain ⟨R', s'⟩ := R.fix hn (.lst (ws ++ zs))
        exact h0.at s' R' _ (.lst upd_same ((r1.append r2).mono s'.s s'.r))
    · cases e
end
end Bd

namespace Bd
open PySem L2
/-! ### displays, argument lists -/
def aNil : AI := fun _ st => .ok [] st
def aCons (a : EI) (r : AI) : AI := fun σ st => (a σ st).bind fun v st1 => (r σ st1).bind fun vs st2 => .ok (v :: vs) st2
def small (n : Nat) : Bool := decide (n ≤ 1000000)
def eTup (r : AI) : EI := fun σ st => (r σ st).bind fun vs st1 => if small vs.length = true then .ok (.tup vs) st1 else .no
def eLst (r : AI) : EI := fun σ st => (r σ st).bind fun vs st1 => if small vs.length = true then .ok (.lst vs) st1 else .no
/-- a list that may be changed -/
def eLstN (r : AI) : EI := fun σ st => (r σ st).bind fun vs st1 => if small vs.length = true then .ok (.ref st1.length) (st1 ++ [.lst vs]) else .no
/-! ### slices -/
def cutG {α : Type} (xs : List α) (lo hi : Option Int) : List α := List.take (HT.sIx xs.length xs.length hi - HT.sIx xs.length 0 lo) (List.drop (HT.sIx xs.length 0 lo) xs)
def kSl (x : Val) (lo hi : Option Int) (st : Sto) : Out Val := match x with
  | .tup vs => if HT.sIx vs.length 0 lo = 0 ∧ HT.sIx vs.length vs.length hi = vs.length then .no else .ok (.tup (cutG vs lo hi)) st
  | .str z => if z.length ≤ 1000000 then .ok (.str (cutS z lo hi)) st else .no
  | _ => match listOf st x with
    | some vs => .ok (.lst (cutG vs lo hi)) st
    | none => .no
abbrev PI' := Sg → Sto → Out (Option Int)
def pNone : PI' := fun _ st => .ok none st
def pSome (f : EI) : PI' := fun σ st => (f σ st).bind fun v st1 => match v with
  | .int i => .ok (some i) st1
  | _ => .no
def eSl (f : EI) (lo hi : PI') : EI := fun σ st => (f σ st).bind fun x st1 => (lo σ st1).bind fun l st2 => (hi σ st2).bind fun u st3 => kSl x l u st3
/-! ### truth, and, or -/
def tru (st : Sto) : Val → Option Bool
  | .non => some false
  | .bl b => some b
  | .int i => some (i != 0)
  | .lst vs => some (!vs.isEmpty)
  | .scr vs => some (!vs.isEmpty)
  | .tup vs => some (!vs.isEmpty)
  | .ref i => (obLst st[i]?).map fun vs => !vs.isEmpty
  | _ => none
def bTru (f : EI) : BI := fun σ st => (f σ st).bind fun v st1 => match tru st1 v with
  | some b => .ok b st1
  | none => .no
def bAnd (a b : BI) : BI := fun σ st => (a σ st).bind fun c st1 => if c = true then b σ st1 else .ok false st1
def bOr (a b : BI) : BI := fun σ st => (a σ st).bind fun c st1 => if c = true then .ok true st1 else b σ st1
def bNot (a : BI) : BI := fun σ st => (a σ st).bind fun c st1 => .ok (!c) st1
def eAnd (a b : EI) : EI := fun σ st => (a σ st).bind fun v st1 => match v with
  | .bl true => b σ st1
  | .bl false => .ok (.bl false) st1
  | _ => .no
def eOr (a b : EI) : EI := fun σ st => (a σ st).bind fun v st1 => match v with
  | .bl false => b σ st1
  | .bl true => .ok (.bl true) st1
  | _ => .no
def eNot (a : EI) : EI := fun σ st => (a σ st).bind fun v st1 => match v with
  | .bl b => .ok (.bl (!b)) st1
  | _ => .no
def eIf (c : BI) (a b : EI) : EI := fun σ st => (c σ st).bind fun d st1 => if d = true then a σ st1 else b σ st1
def eChain (k k' : Val → Val → Sto → Out Val) (a b c : EI) : EI := fun σ st => (a σ st).bind fun x st1 => (b σ st1).bind fun y st2 => (k x y st2).bind fun z st3 => match z with
  | .bl true => (c σ st3).bind fun w st4 => k' y w st4
  | .bl false => .ok (.bl false) st3
  | _ => .no
/-- a built-in by values -/
def eB (k : List Val → Sto → Out Val) (r : AI) : EI := fun σ st => (r σ st).bind fun vs st1 => k vs st1
section
variable {X : Cx} {ξ : Exo} {W : WX} {e a b c : Expr} {es : List Expr} {f fa fb fc : EI} {r : AI} {ba bb : BI} {pos : Pos}
theorem a_nil : PA X [] (TL (gt X ξ) W aNil) := pa_nil.weak fun σ H Q ⟨B, S, ρ, σI, st, R, L, h⟩ => h.here R [] .nil
theorem a_cons (ha : PE X e (TI (gt X ξ) W f)) (hr : PA X es (TL (gt X ξ) W r)) (hs : starEach (e :: es) X.env = (false, eval e X.env) :: starEach es X.env := by rfl) : PA X (e :: es) (TL (gt X ξ) W (aCons f r)) := by
  refine (pa_cons ha hr hs).weak fun σ H Q ⟨B, S, ρ, σI, st, R, L, h⟩ => ?_
  refine ⟨B, S, ρ, σI, st, R, L, After.imp (After.bind h) fun x S1 ρ1 st1 H1 s1 R1 h1 w1 r1 => ?_⟩
  refine ⟨B, S1, ρ1, σI, st1, R1, L.mono s1.s s1.r, h1.bind.imp fun y S2 ρ2 st2 H2 s2 R2 h2 w2 r2 => ?_⟩
  exact h2.here R2 _ (.cons (r1.mono s2.s s2.r) r2)
theorem small_line {n : Nat} (h : small n = true) : n ≤ sizeLine := by
  have : n ≤ 1000000 := of_decide_eq_true h
  rw [sizeLine_eq]; omega
theorem i_tup {k : Nat} (ha : PA X es (TL (gt X ξ) W r)) : PE X (.Tuple es k pos) (TI (gt X ξ) W (eTup r)) := by
  refine (pe_tup ha).weak fun σ H Q ⟨B, S, ρ, σI, st, R, L, h⟩ => ?_
  refine ⟨B, S, ρ, σI, st, R, L, After.imp (After.bind h) fun vs S1 ρ1 st1 H1 s1 R1 h1 ws r1 => ?_⟩
  split at h1
  · rename_i hz
    refine ⟨by rw [← r1.length]; exact small_line hz, fun p hp => ?_⟩
    obtain ⟨R', s'⟩ := R1.fix hp (.tup ws)
    exact h1.at s' R' _ (.tup upd_same (r1.mono s'.s s'.r))
  · exact h1.elim
theorem i_lst (ha : PA X es (TL (gt X ξ) W r)) : PE X (.List es pos) (TI (gt X ξ) W (eLst r)) := by
  refine (pe_lst ha).weak fun σ H Q ⟨B, S, ρ, σI, st, R, L, h⟩ => ?_
  refine ⟨B, S, ρ, σI, st, R, L, After.imp (After.bind h) fun vs S1 ρ1 st1 H1 s1 R1 h1 ws r1 => ?_⟩
  split at h1
  · rename_i hz
    refine ⟨by rw [← r1.length]; exact small_line hz, fun p hp => ?_⟩
    obtain ⟨R', s'⟩ := R1.fix hp (.lst ws)
    exact h1.at s' R' _ (.lst upd_same (r1.mono s'.s s'.r))
  · exact h1.elim
theorem i_lstN (ha : PA X es (TL (gt X ξ) W r)) : PE X (.List es pos) (TI (gt X ξ) W (eLstN r)) := by
  refine (pe_lst ha).weak fun σ H Q ⟨B, S, ρ, σI, st, R, L, h⟩ => ?_
  refine ⟨B, S, ρ, σI, st, R, L, After.imp (After.bind h) fun vs S1 ρ1 st1 H1 s1 R1 h1 ws r1 => ?_⟩
  split at h1
  · rename_i hz
    refine ⟨by rw [← r1.length]; exact small_line hz, fun p hp => ?_⟩
    obtain ⟨R', s'⟩ := R1.new hp r1
    exact h1.at s' R' _ (.ref (by rw [← R1.len]; simp))
  · exact h1.elim
/-! slices -/
theorem RVs.cut {G : Gt} {S : Hp} {ρ : List Addr} {vs : List Val} {ws : List V} (q : RVs G S ρ vs ws) (lo hi : Option Int) : RVs G S ρ (cutG vs lo hi) (cutV ws lo hi) := by
  show RVs G S ρ (cutG vs lo hi) (cutG ws lo hi)
  unfold cutG
  rw [q.length]
  exact (q.drop _).take _
def TO' (G : Gt) (W : WX) (f : PI') : TO := fun σ H Q => ∃ B S ρ σI st, HR G B S ρ st H ∧ SlR G S ρ σI σ ∧ After G W B S ρ σ (f σI st) fun v _ _ _ H' => Q v H'
theorem p_none : PO X none (TO' (gt X ξ) W pNone) := ⟨fun pins s σ H Q I ⟨B, S, ρ, σI, st, R, L, h⟩ => po_none.run pins s σ H Q I (h.here R)⟩
theorem p_some (he : PE X e (TI (gt X ξ) W f)) : PO X (some e) (TO' (gt X ξ) W (pSome f)) := by
  refine ⟨fun pins s σ H Q I ⟨B, S, ρ, σI, st, R, L, h⟩ => (po_some he).run pins s σ H Q I ?_⟩
  refine ⟨B, S, ρ, σI, st, R, L, After.imp (After.bind h) fun x S1 ρ1 st1 H1 s1 R1 h1 w1 r1 => ?_⟩
  cases x with
  | int i => cases r1; exact ⟨i, rfl, h1.here R1⟩
  | _ => exact h1.elim
def rSlA (K : PySem.W.Frag) : V → Option Int → Option Int → Hp → VK → Prop := fun x lo hi H Q => rSlT K x lo hi H Q ∨ (rSlL K x lo hi H Q ∨ rSlS x lo hi H Q)
theorem sl_any : L2.SlR X (rSlA X.K) := sl_tup.or (sl_list.or sl_str)
theorem kSl_bears {B S : Hp} {ρ : List Addr} {st : Sto} {σ : St} {H : Hp} {x : Val} {v : V} {lo hi : Option Int} {Q : VK} (R : HR (gt X ξ) B S ρ st H) (rx : RV (gt X ξ) S ρ x v)
    (h : After (gt X ξ) W B S ρ σ (kSl x lo hi st) (fun z S' ρ' _ H' => ∀ u, RV (gt X ξ) S' ρ' z u → Q u H')) : rSlA X.K v lo hi H Q := by
  unfold kSl at h
  split at h
  · rename_i vs
    split at h
    · exact h.elim
    · rename_i hn
      cases rx with
      | tup e r =>
        refine .inl ⟨_, _, rfl, SqT.of (R.s _ _ e), by rw [← r.length]; exact hn, fun p hp => ?_⟩
        obtain ⟨R', s'⟩ := R.fix hp (.tup (cutV _ lo hi))
        exact h.at s' R' _ (.tup upd_same ((r.cut lo hi).mono s'.s s'.r))
  · rename_i z
    split at h
    · rename_i hz
      cases rx
      exact .inr (.inr ⟨z, rfl, by rw [sizeLine_eq]; omega, h.here R _ (.str _)⟩)
    · exact h.elim
  · split at h
    · rename_i vs e
      obtain ⟨p, ws, rfl, hp, rr⟩ := listOf_get R rx e
      refine .inr (.inl ⟨p, ws, rfl, hp, fun q hq => ?_⟩)
      obtain ⟨R', s'⟩ := R.fix hq (.lst (cutV ws lo hi))
      exact h.at s' R' _ (.lst upd_same ((rr.cut lo hi).mono s'.s s'.r))
    · exact h.elim
theorem i_sl {lo hi : Option Expr} {p q : PI'} {p2 : Pos} (he : PE X e (TI (gt X ξ) W f)) (hl : PO X lo (TO' (gt X ξ) W p)) (hh : PO X hi (TO' (gt X ξ) W q)) : PE X (.Subscript e (.Slice lo hi none p2) pos) (TI (gt X ξ) W (eSl f p q)) := by
  refine (pe_slice sl_any he hl hh).weak fun σ H Q ⟨B, S, ρ, σI, st, R, L, h⟩ => ?_
  refine ⟨B, S, ρ, σI, st, R, L, After.imp (After.bind h) fun x S1 ρ1 st1 H1 s1 R1 h1 w1 r1 => ?_⟩
  refine ⟨B, S1, ρ1, σI, st1, R1, L.mono s1.s s1.r, h1.bind.imp fun y S2 ρ2 st2 H2 s2 R2 h2 => ?_⟩
  refine ⟨B, S2, ρ2, σI, st2, R2, (L.mono s1.s s1.r).mono s2.s s2.r, h2.bind.imp fun z S3 ρ3 st3 H3 s3 R3 h3 => ?_⟩
  exact kSl_bears R3 ((r1.mono s2.s s2.r).mono s3.s s3.r) h3
theorem i_ix (ha : PE X a (TI (gt X ξ) W fa)) (hb : PE X b (TI (gt X ξ) W fb)) (hs : PlainIx b := by exact fun _ _ => rfl) : PE X (.Subscript a b pos) (TI (gt X ξ) W (eBin kIx fa fb)) :=
  (pe_ix (ix_list.or ix_tup) ha hb hs).weak fun _ _ _ h => two_imp kIx_bears h
/-! operators -/
theorem i_add (ha : PE X a (TI (gt X ξ) W fa)) (hb : PE X b (TI (gt X ξ) W fb)) : PE X (.BinOp a .Add b pos) (TI (gt X ξ) W (eBin kAdd fa fb)) := i_bin op_addA kAdd_bears ha hb
theorem i_sub (ha : PE X a (TI (gt X ξ) W fa)) (hb : PE X b (TI (gt X ξ) W fb)) : PE X (.BinOp a .Sub b pos) (TI (gt X ξ) W (eBin kSub fa fb)) := i_bin op_sub (kI_bears fun _ _ _ _ => .int _) ha hb
theorem i_mul (ha : PE X a (TI (gt X ξ) W fa)) (hb : PE X b (TI (gt X ξ) W fb)) : PE X (.BinOp a .Mult b pos) (TI (gt X ξ) W (eBin kMul fa fb)) := i_bin op_mulB (kIc_bears (fun _ _ h => h) fun _ _ _ _ => .int _) ha hb
theorem i_div (ha : PE X a (TI (gt X ξ) W fa)) (hb : PE X b (TI (gt X ξ) W fb)) : PE X (.BinOp a .FloorDiv b pos) (TI (gt X ξ) W (eBin kDiv fa fb)) := i_bin op_fdivB (kIc_bears (fun i j h => by simpa using h) fun _ _ _ _ => .int _) ha hb
theorem i_mod (ha : PE X a (TI (gt X ξ) W fa)) (hb : PE X b (TI (gt X ξ) W fb)) : PE X (.BinOp a .Mod b pos) (TI (gt X ξ) W (eBin kMod fa fb)) := i_bin op_modN (kIc_bears (fun i j h => by simpa using h) fun _ _ _ _ => .int _) ha hb
theorem i_pow (ha : PE X a (TI (gt X ξ) W fa)) (hb : PE X b (TI (gt X ξ) W fb)) : PE X (.BinOp a .Pow b pos) (TI (gt X ξ) W (eBin kPow fa fb)) := i_bin op_pow (kIc_bears (C := CPow) (fun i j h => (of_decide_eq_true h : 0 ≤ j ∧ j ≤ 1000000 ∧ i.natAbs < 2 ^ 64)) fun _ _ _ _ => .int _) ha hb
def kNeg : Val → Sto → Out Val := fun x st => match x with
  | .int i => .ok (.int (-i)) st
  | _ => .no
theorem i_neg (ha : PE X a (TI (gt X ξ) W fa)) : PE X (.UnaryOp .USub a pos) (TI (gt X ξ) W (eUn kNeg fa)) := i_un un_neg (by
  intro B S ρ st σ H x v Q R rx h
  unfold kNeg at h
  split at h
  · cases rx; exact ⟨_, rfl, h.here R _ (.int _)⟩
  · exact h.elim) ha
section
variable (ha : PE X a (TI (gt X ξ) W fa)) (hb : PE X b (TI (gt X ξ) W fb))
include ha hb
theorem i_lt : PE X (.Compare a [.Lt] [b] pos) (TI (gt X ξ) W (eBin kLt fa fb)) := i_cmp op_lt (kI_bears fun _ _ _ _ => .bl _) ha hb (nomark _)
theorem i_le : PE X (.Compare a [.LtE] [b] pos) (TI (gt X ξ) W (eBin kLe fa fb)) := i_cmp op_le (kI_bears fun _ _ _ _ => .bl _) ha hb (nomark _)
theorem i_gt : PE X (.Compare a [.Gt] [b] pos) (TI (gt X ξ) W (eBin kGt fa fb)) := i_cmp op_gt (kI_bears fun _ _ _ _ => .bl _) ha hb (nomark _)
theorem i_ge : PE X (.Compare a [.GtE] [b] pos) (TI (gt X ξ) W (eBin kGe fa fb)) := i_cmp op_ge (kI_bears fun _ _ _ _ => .bl _) ha hb (nomark _)
theorem i_eq (hu : X.A.units + 64 < cLine) : PE X (.Compare a [.Eq] [b] pos) (TI (gt X ξ) W (eBin kEq fa fb)) := i_cmp (op_eqD hu) kEq_bears ha hb (nomark _)
theorem i_ne (hu : X.A.units + 64 < cLine) : PE X (.Compare a [.NotEq] [b] pos) (TI (gt X ξ) W (eBin kNe fa fb)) := i_cmp (op_neD hu) kNe_bears ha hb (nomark _)
theorem i_is : PE X (.Compare a [.Is] [b] pos) (TI (gt X ξ) W (eBin kIs fa fb)) := i_cmp op_isN kIs_bears ha hb (nomark _)
theorem i_isnot : PE X (.Compare a [.IsNot] [b] pos) (TI (gt X ξ) W (eBin kIsNot fa fb)) := i_cmp op_notN kIsNot_bears ha hb (nomark _)
theorem t_lt : PT X (.Compare a [.Lt] [b] pos) (TB (gt X ξ) W (bOf (eBin kLt fa fb))) := t_cmp op_lt (kI_bears fun _ _ _ _ => .bl _) ha hb (nomark _)
theorem t_le : PT X (.Compare a [.LtE] [b] pos) (TB (gt X ξ) W (bOf (eBin kLe fa fb))) := t_cmp op_le (kI_bears fun _ _ _ _ => .bl _) ha hb (nomark _)
theorem t_gt : PT X (.Compare a [.Gt] [b] pos) (TB (gt X ξ) W (bOf (eBin kGt fa fb))) := t_cmp op_gt (kI_bears fun _ _ _ _ => .bl _) ha hb (nomark _)
theorem t_ge : PT X (.Compare a [.GtE] [b] pos) (TB (gt X ξ) W (bOf (eBin kGe fa fb))) := t_cmp op_ge (kI_bears fun _ _ _ _ => .bl _) ha hb (nomark _)
theorem t_eq (hu : X.A.units + 64 < cLine) : PT X (.Compare a [.Eq] [b] pos) (TB (gt X ξ) W (bOf (eBin kEq fa fb))) := t_cmp (op_eqD hu) kEq_bears ha hb (nomark _)
theorem t_ne (hu : X.A.units + 64 < cLine) : PT X (.Compare a [.NotEq] [b] pos) (TB (gt X ξ) W (bOf (eBin kNe fa fb))) := t_cmp (op_neD hu) kNe_bears ha hb (nomark _)
theorem t_is : PT X (.Compare a [.Is] [b] pos) (TB (gt X ξ) W (bOf (eBin kIs fa fb))) := t_cmp op_isN kIs_bears ha hb (nomark _)
theorem t_isnot : PT X (.Compare a [.IsNot] [b] pos) (TB (gt X ξ) W (bOf (eBin kIsNot fa fb))) := t_cmp op_notN kIsNot_bears ha hb (nomark _)
end
/-! chains -/
theorem chain_imp {r r' : R2} {k k' : Val → Val → Sto → Out Val} (hk : Bears2 X ξ W r k) (hk' : Bears2 X ξ W r' k') {σ : St} {H : Hp} {Q : VK} (h : TI (gt X ξ) W (eChain k k' fa fb fc) σ H Q) : tChain r r' (TI (gt X ξ) W fa) (TI (gt X ξ) W fb) (TI (gt X ξ) W fc) σ H Q := by
  obtain ⟨B, S, ρ, σI, st, R, L, h⟩ := h
  refine ⟨B, S, ρ, σI, st, R, L, After.imp (After.bind h) fun x S1 ρ1 st1 H1 s1 R1 h1 w1 r1 => ?_⟩
  have L1 := L.mono s1.s s1.r
  refine ⟨B, S1, ρ1, σI, st1, R1, L1, h1.bind.imp fun y S2 ρ2 st2 H2 s2 R2 h2 w2 r2 => ?_⟩
  have L2' := L1.mono s2.s s2.r
  refine hk B S2 ρ2 st2 σ H2 x y w1 w2 _ R2 (r1.mono s2.s s2.r) r2 (h2.bind.imp fun z S3 ρ3 st3 H3 s3 R3 h3 u ru => ?_)
  split at h3
  · cases ru
    refine ⟨true, rfl, ?_⟩
    rw [if_pos rfl]
    refine ⟨B, S3, ρ3, σI, st3, R3, L2'.mono s3.s s3.r, h3.bind.imp fun z4 S4 ρ4 st4 H4 s4 R4 h4 w4 r4 => ?_⟩
    exact hk' B S4 ρ4 st4 σ H4 y z4 w2 w4 Q R4 ((r2.mono s3.s s3.r).mono s4.s s4.r) r4 h4
  · cases ru
    refine ⟨false, rfl, ?_⟩
    rw [if_neg Bool.false_ne_true]
    exact h3.here R3 _ (.bl _)
  · exact h3.elim
theorem i_chain {op op' : CmpOp} {r r' : R2} {k k' : Val → Val → Sto → Out Val} (ho : OpR X (compareOp op) r) (ho' : OpR X (compareOp op') r') (hk : Bears2 X ξ W r k) (hk' : Bears2 X ξ W r' k') (ha : PE X a (TI (gt X ξ) W fa)) (hb : PE X b (TI (gt X ξ) W fb)) (hc : PE X c (TI (gt X ξ) W fc))
    (hm : lastMarks [op, op'] [b, c] = false := by with_unfolding_all rfl) : PE X (.Compare a [op, op'] [b, c] pos) (TI (gt X ξ) W (eChain k k' fa fb fc)) := (pe_chain ho ho' ha hb hc hm).weak fun _ _ _ h => chain_imp hk hk' h
theorem t_chain {op op' : CmpOp} {r r' : R2} {k k' : Val → Val → Sto → Out Val} (ho : OpR X (compareOp op) r) (ho' : OpR X (compareOp op') r') (hk : Bears2 X ξ W r k) (hk' : Bears2 X ξ W r' k') (ha : PE X a (TI (gt X ξ) W fa)) (hb : PE X b (TI (gt X ξ) W fb)) (hc : PE X c (TI (gt X ξ) W fc))
    (hm : lastMarks [op, op'] [b, c] = false := by with_unfolding_all rfl) : PT X (.Compare a [op, op'] [b, c] pos) (TB (gt X ξ) W (bOf (eChain k k' fa fb fc))) := (pt_chain ho ho' ha hb hc hm).weak fun _ _ _ h => chain_imp hk hk' (bOf_imp h)
theorem b_lt : Bears2 X ξ W (rI0 fun i j => V.bl (decide (i < j))) kLt := kI_bears fun _ _ _ _ => .bl _
theorem b_le : Bears2 X ξ W (rI0 fun i j => V.bl (decide (i ≤ j))) kLe := kI_bears fun _ _ _ _ => .bl _
/-! and, or, not, if -/
theorem i_one {op} (h : PE X a (TI (gt X ξ) W f)) : PE X (.BoolOp op [a] pos) (TI (gt X ξ) W f) := pe_one h
theorem i_and (ha : PE X a (TI (gt X ξ) W fa)) (hb : PE X (.BoolOp .And (b :: es) pos) (TI (gt X ξ) W fb)) : PE X (.BoolOp .And (a :: b :: es) pos) (TI (gt X ξ) W (eAnd fa fb)) := by
  refine (pe_and ha hb).weak fun σ H Q ⟨B, S, ρ, σI, st, R, L, h⟩ => ?_
  refine ⟨B, S, ρ, σI, st, R, L, After.imp (After.bind h) fun x S1 ρ1 st1 H1 s1 R1 h1 w1 r1 => ?_⟩
  split at h1
  · cases r1; exact ⟨true, rfl, by rw [if_pos rfl]; exact ⟨B, S1, ρ1, σI, st1, R1, L.mono s1.s s1.r, h1⟩⟩
  · cases r1; exact ⟨false, rfl, by rw [if_neg Bool.false_ne_true]; exact h1.here R1 _ (.bl _)⟩
  · exact h1.elim
theorem i_or (ha : PE X a (TI (gt X ξ) W fa)) (hb : PE X (.BoolOp .Or (b :: es) pos) (TI (gt X ξ) W fb)) : PE X (.BoolOp .Or (a :: b :: es) pos) (TI (gt X ξ) W (eOr fa fb)) := by
  refine (pe_or ha hb).weak fun σ H Q ⟨B, S, ρ, σI, st, R, L, h⟩ => ?_
  refine ⟨B, S, ρ, σI, st, R, L, After.imp (After.bind h) fun x S1 ρ1 st1 H1 s1 R1 h1 w1 r1 => ?_⟩
  split at h1
  · cases r1; exact ⟨false, rfl, by rw [if_neg Bool.false_ne_true]; exact ⟨B, S1, ρ1, σI, st1, R1, L.mono s1.s s1.r, h1⟩⟩
  · cases r1; exact ⟨true, rfl, by rw [if_pos rfl]; exact h1.here R1 _ (.bl _)⟩
  · exact h1.elim
theorem i_not (ha : PE X a (TI (gt X ξ) W fa)) : PE X (.UnaryOp .Not a pos) (TI (gt X ξ) W (eNot fa)) := by
  refine (pe_not ha).weak fun σ H Q ⟨B, S, ρ, σI, st, R, L, h⟩ => ?_
  refine ⟨B, S, ρ, σI, st, R, L, After.imp (After.bind h) fun x S1 ρ1 st1 H1 s1 R1 h1 w1 r1 => ?_⟩
  cases x with
  | bl k => cases r1; exact ⟨k, rfl, h1.here R1 _ (.bl _)⟩
  | _ => exact h1.elim
theorem w_one {op : PySem.BoolOp} (h : PT X a (TB (gt X ξ) W ba)) : PW X (.BoolOp op [a] pos) (TB (gt X ξ) W ba) := by
  cases op
  · exact pw_and1 h
  · exact pw_or1 h
theorem w_and (ha : PT X a (TB (gt X ξ) W ba)) (hb : PW X (.BoolOp .And (b :: es) pos) (TB (gt X ξ) W bb)) : PW X (.BoolOp .And (a :: b :: es) pos) (TB (gt X ξ) W (bAnd ba bb)) := by
  refine (pw_and ha hb).weak fun σ H Q ⟨B, S, ρ, σI, st, R, L, h⟩ => ?_
  refine ⟨B, S, ρ, σI, st, R, L, After.imp (After.bind h) fun x S1 ρ1 st1 H1 s1 R1 h1 => ?_⟩
  cases x with
  | true => rw [if_pos rfl] at h1 ⊢; exact ⟨B, S1, ρ1, σI, st1, R1, L.mono s1.s s1.r, h1⟩
  | false => rw [if_neg Bool.false_ne_true] at h1 ⊢; exact h1.here R1
theorem w_or (ha : PT X a (TB (gt X ξ) W ba)) (hb : PW X (.BoolOp .Or (b :: es) pos) (TB (gt X ξ) W bb)) : PW X (.BoolOp .Or (a :: b :: es) pos) (TB (gt X ξ) W (bOr ba bb)) := by
  refine (pw_or ha hb).weak fun σ H Q ⟨B, S, ρ, σI, st, R, L, h⟩ => ?_
  refine ⟨B, S, ρ, σI, st, R, L, After.imp (After.bind h) fun x S1 ρ1 st1 H1 s1 R1 h1 => ?_⟩
  cases x with
  | false => rw [if_neg Bool.false_ne_true] at h1 ⊢; exact ⟨B, S1, ρ1, σI, st1, R1, L.mono s1.s s1.r, h1⟩
  | true => rw [if_pos rfl] at h1 ⊢; exact h1.here R1
theorem t_not (ha : PT X a (TB (gt X ξ) W ba)) : PT X (.UnaryOp .Not a pos) (TB (gt X ξ) W (bNot ba)) := by
  refine (pt_not ha).weak fun σ H Q ⟨B, S, ρ, σI, st, R, L, h⟩ => ?_
  exact ⟨B, S, ρ, σI, st, R, L, After.imp (After.bind h) fun x S1 ρ1 st1 H1 s1 R1 h1 => h1.here R1⟩
theorem t_tru (ha : PE X a (TI (gt X ξ) W f)) (he : ∀ whole, PySem.isTrue a X.env whole = (do let v ← whole; standAt a.pos; holding [v] (truthy v)) := by intro _; rfl) : PT X a (TB (gt X ξ) W (bTru f)) := by
  refine (pt_truth ha he).weak fun σ H Q ⟨B, S, ρ, σI, st, R, L, h⟩ => ?_
  refine ⟨B, S, ρ, σI, st, R, L, After.imp (After.bind h) fun x S1 ρ1 st1 H1 s1 R1 h1 w1 r1 => ?_⟩
  split at h1
  · rename_i k e
    refine ⟨k, ?_, h1.here R1⟩
    cases r1 with
    | non => cases e; rfl
    | bl b => cases e; rfl
    | int i => cases e; rfl
    | lst a b => cases e; exact .inl ⟨_, SqL.of (R1.s _ _ a), by cases b <;> rfl⟩
    | scr a b => cases e; exact .inl ⟨_, L2.Same.seq R1.s a, by cases b <;> rfl⟩
    | tup a b => cases e; exact .inr (.inl ⟨_, SqT.of (R1.s _ _ a), by cases b <;> rfl⟩)
    | ref a =>
      obtain ⟨vs, e1, rfl⟩ := Option.map_eq_some_iff.mp e
      obtain ⟨ws, h2, h3⟩ := ref_get R1 a e1
      exact .inl ⟨_, SqL.of h2, by cases h3 <;> rfl⟩
    | _ => cases e
  · exact h1.elim
theorem i_if (hc : PT X c (TB (gt X ξ) W ba)) (ha : PE X a (TI (gt X ξ) W fa)) (hb : PE X b (TI (gt X ξ) W fb)) : PE X (.IfExp c a b pos) (TI (gt X ξ) W (eIf ba fa fb)) := by
  refine (pe_ifExp hc ha hb).weak fun σ H Q ⟨B, S, ρ, σI, st, R, L, h⟩ => ?_
  refine ⟨B, S, ρ, σI, st, R, L, After.imp (After.bind h) fun x S1 ρ1 st1 H1 s1 R1 h1 => ?_⟩
  cases x with
  | true => rw [if_pos rfl] at h1 ⊢; exact ⟨B, S1, ρ1, σI, st1, R1, L.mono s1.s s1.r, h1⟩
  | false => rw [if_neg Bool.false_ne_true] at h1 ⊢; exact ⟨B, S1, ρ1, σI, st1, R1, L.mono s1.s s1.r, h1⟩
/-! ### built-ins -/
def BearsL (X : Cx) (ξ : Exo) (W : WX) (r : List V → Hp → VK → Prop) (k : List Val → Sto → Out Val) : Prop :=
  ∀ (B S : Hp) (ρ : List Addr) (st : Sto) (σ : St) (H : Hp) (xs : List Val) (vs : List V) (Q : VK), HR (gt X ξ) B S ρ st H → RVs (gt X ξ) S ρ xs vs → After (gt X ξ) W B S ρ σ (k xs st) (fun z S' ρ' _ H' => ∀ u, RV (gt X ξ) S' ρ' z u → Q u H') → r vs H Q
theorem b_imp {rr : List V → Hp → VK → Prop} {k : List Val → Sto → Out Val} (hk : BearsL X ξ W rr k) {σ : St} {H : Hp} {Q : VK} (h : TI (gt X ξ) W (eB k r) σ H Q) : tCB rr (TL (gt X ξ) W r) σ H Q := by
  obtain ⟨B, S, ρ, σI, st, R, L, h⟩ := h
  exact ⟨B, S, ρ, σI, st, R, L, After.imp (After.bind h) fun x S1 ρ1 st1 H1 s1 R1 h1 w1 r1 => hk B S1 ρ1 st1 σ H1 x w1 Q R1 r1 h1⟩
theorem i_callB {id : String} {rr : List V → Hp → VK → Prop} {k : List Val → Sto → Out Val} {x : Str} {p : Pos} (hk : BearsL X ξ W rr k) (hc : CallR X (.builtin id) rr) (hg : Gl X x) (hm : X.mg x = none) (hv : bootBuiltins x = some (.builtin id)) (ha : PA X (e :: es) (TL (gt X ξ) W r)) (hn : x ≠ "__name__" := by decide) (hdb : (x == ("__debug__" : Str)) = false := by decide)
    (he : starEach (e :: es) X.env = (false, eval e X.env) :: starEach es X.env := by rfl) (hpl : (backTo pos (starEach es X.env)).any (·.1) = false := by rfl) : PE X (.Call (.Name x p) (e :: es) [] pos) (TI (gt X ξ) W (eB k r)) :=
  (pe_callB hc hg hm hv ha hn hdb he hpl).weak fun _ _ _ h => b_imp hk h
theorem i_callT {id : String} {rr : List V → Hp → VK → Prop} {k : List Val → Sto → Out Val} {x : Str} {p : Pos} (hk : BearsL X ξ W rr k) (hc : CallR X (.type id) rr) (hg : Gl X x) (hm : X.mg x = none) (hv : bootBuiltins x = some (.type id)) (ha : PA X (e :: es) (TL (gt X ξ) W r)) (hn : x ≠ "__name__" := by decide) (hdb : (x == ("__debug__" : Str)) = false := by decide)
    (he : starEach (e :: es) X.env = (false, eval e X.env) :: starEach es X.env := by rfl) (hpl : (backTo pos (starEach es X.env)).any (·.1) = false := by rfl) : PE X (.Call (.Name x p) (e :: es) [] pos) (TI (gt X ξ) W (eB k r)) :=
  (pe_callTy hc hg hm hv ha hn hdb he hpl).weak fun _ _ _ h => b_imp hk h
def kL (f : List Val → Sto → Option Val) : List Val → Sto → Out Val := fun xs st => match f xs st with
  | some v => .ok v st
  | none => .no
theorem kL_some {G : Gt} {B S : Hp} {ρ : List Addr} {σ : St} {f : List Val → Sto → Option Val} {xs : List Val} {st : Sto} {P : Val → Hp → List Addr → Sto → Hp → Prop} (h : After G W B S ρ σ (kL f xs st) P) : ∃ z, f xs st = some z ∧ After G W B S ρ σ (.ok z st) P := by
  unfold kL at h
  split at h
  · rename_i v e; exact ⟨v, e, h⟩
  · exact h.elim
/-- what is an instance of what -/
def isi (st : Sto) (v : Val) (t : BT) : Option Bool := match v with
  | .non => some false
  | .bl _ => some (decide (t = .bool) || decide (t = .int))
  | .int _ => some (decide (t = .int))
  | .str _ => some (decide (t = .str))
  | .tup _ => some (decide (t = .tuple))
  | .lst _ => some (decide (t = .list))
  | .scr _ => some (decide (t = .list))
  | .dct => some (decide (t = .dict))
  | .ref i => (obLst st[i]?).map fun _ => decide (t = .list)
  | _ => none
def kIsi : List Val → Sto → Out Val := kL fun xs st => match xs with
  | [v, .ty t] => (isi st v t).map .bl
  | _ => none
theorem kit_tab : ∀ t : BT, kitB "NoneType" t.name = some false ∧ kitB "bool" t.name = some (decide (t = .bool) || decide (t = .int)) ∧ kitB "int" t.name = some (decide (t = .int)) ∧ kitB "str" t.name = some (decide (t = .str)) ∧
    kitB "tuple" t.name = some (decide (t = .tuple)) ∧ kitB "list" t.name = some (decide (t = .list)) ∧ kitB "dict" t.name = some (decide (t = .dict)) := by
  intro t
  cases t <;> decide +kernel
theorem kIsi_bears : BearsL X ξ W (rIsi X.K) kIsi := by
  intro B S ρ st σ H xs vs Q R rx h
  obtain ⟨z, e, h0⟩ := kL_some h
  split at e
  · rename_i v t
    obtain ⟨b, e1, rfl⟩ := Option.map_eq_some_iff.mp e
    cases rx with
    | cons r1 rx =>
      cases rx with
      | cons r2 rx =>
        cases rx
        cases r2
        obtain ⟨k1, k2, k3, k4, k5, k6, k7⟩ := kit_tab t
        have q := h0.here R _ (.bl b)
        cases r1 with
        | non => cases e1; exact ⟨_, _, _, _, _, rfl, .ty _, .base .non, kit_ty k1, q⟩
        | bl x => cases e1; exact ⟨_, _, _, _, _, rfl, .ty _, .base (.bl _), kit_ty k2, q⟩
        | int x => cases e1; exact ⟨_, _, _, _, _, rfl, .ty _, .base (.int _), kit_ty k3, q⟩
        | str x => cases e1; exact ⟨_, _, _, _, _, rfl, .ty _, .base (.str _), kit_ty k4, q⟩
        | tup x y => cases e1; exact ⟨_, _, _, _, _, rfl, .ty _, .base (.tup (R.s _ _ x)), kit_ty k5, q⟩
        | lst x y => cases e1; exact ⟨_, _, _, _, _, rfl, .ty _, .base (.lst (R.s _ _ x)), kit_ty k6, q⟩
        | scr x y =>
          cases e1
          rcases L2.Same.seq R.s x with (x | ⟨o, x⟩) | ⟨o, its, n, x, y, _⟩
          · exact ⟨_, _, _, _, _, rfl, .ty _, .base (.lst x), kit_ty k6, q⟩
          · exact ⟨_, _, _, _, _, rfl, .ty _, .base (.frz x), kit_ty k6, q⟩
          · exact ⟨_, _, _, _, _, rfl, .ty _, .kList x y, kit_ty k6, q⟩
        | dct x => cases e1; exact ⟨_, _, _, _, _, rfl, .ty _, .base (.dK (R.s _ _ x)), kit_ty k7, q⟩
        | ref x =>
          obtain ⟨vs, e2, rfl⟩ := Option.map_eq_some_iff.mp e1
          obtain ⟨ws, h2, _⟩ := ref_get R x e2
          exact ⟨_, _, _, _, _, rfl, .ty _, .base (.lst h2), kit_ty k6, q⟩
        | ty x => cases e1
        | ex x => cases e1
        | gl x y => cases e1
        | ins x y z => cases e1
  · cases e
def kLen : List Val → Sto → Out Val := kL fun xs st => match xs with
  | [v] => (seqOf st v).map fun vs => .int vs.length
  | _ => none
theorem one_rvs {G : Gt} {S : Hp} {ρ : List Addr} {v : Val} {ws : List V} (r : RVs G S ρ [v] ws) : ∃ w, ws = [w] ∧ RV G S ρ v w := by
  cases r with
  | cons a b => cases b; exact ⟨_, rfl, a⟩
theorem two_rvs {G : Gt} {S : Hp} {ρ : List Addr} {v v' : Val} {ws : List V} (r : RVs G S ρ [v, v'] ws) : ∃ w w', ws = [w, w'] ∧ RV G S ρ v w ∧ RV G S ρ v' w' := by
  cases r with
  | cons a b => cases b with | cons c d => cases d; exact ⟨_, _, rfl, a, c⟩
theorem kLen_bears : BearsL X ξ W (fun xs H Q => ∃ p ys, xs = [V.ref p] ∧ (SqL X.K H p ys ∨ SqT X.K H p ys) ∧ Q (V.int ys.length) H) kLen := by
  intro B S ρ st σ H xs vs Q R rx h
  obtain ⟨z, e, h0⟩ := kL_some h
  split at e
  · obtain ⟨us, e1, rfl⟩ := Option.map_eq_some_iff.mp e
    obtain ⟨w, rfl, rw'⟩ := one_rvs rx
    obtain ⟨p, ws, rfl, hp, rr⟩ := seqOf_get R rw' e1
    exact ⟨p, ws, rfl, hp, by rw [← rr.length]; exact h0.here R _ (.int _)⟩
  · cases e
def kAbs : List Val → Sto → Out Val := kL fun xs _ => match xs with
  | [.int i] => some (.int (if i < 0 then -i else i))
  | _ => none
theorem kAbs_bears : BearsL X ξ W (fun xs H Q => ∃ i, xs = [V.int i] ∧ Q (V.int (if i < 0 then -i else i)) H) kAbs := by
  intro B S ρ st σ H xs vs Q R rx h
  obtain ⟨z, e, h0⟩ := kL_some h
  split at e
  · cases e
    obtain ⟨w, rfl, rw'⟩ := one_rvs rx
    cases rw'
    exact ⟨_, rfl, h0.here R _ (.int _)⟩
  · cases e
def kMax2 : List Val → Sto → Out Val := kL fun xs _ => match xs with
  | [.int i, .int j] => some (.int (if j > i then j else i))
  | _ => none
def kMin2 : List Val → Sto → Out Val := kL fun xs _ => match xs with
  | [.int i, .int j] => some (.int (if j < i then j else i))
  | _ => none
theorem kMax2_bears : BearsL X ξ W (fun xs H Q => ∃ i j, xs = [V.int i, V.int j] ∧ Q (V.int (if j > i then j else i)) H) kMax2 := by
  intro B S ρ st σ H xs vs Q R rx h
  obtain ⟨z, e, h0⟩ := kL_some h
  split at e
  · cases e
    obtain ⟨w, w', rfl, r1, r2⟩ := two_rvs rx
    cases r1; cases r2
    exact ⟨_, _, rfl, h0.here R _ (.int _)⟩
  · cases e
theorem kMin2_bears : BearsL X ξ W (fun xs H Q => ∃ i j, xs = [V.int i, V.int j] ∧ Q (V.int (if j < i then j else i)) H) kMin2 := by
  intro B S ρ st σ H xs vs Q R rx h
  obtain ⟨z, e, h0⟩ := kL_some h
  split at e
  · cases e
    obtain ⟨w, w', rfl, r1, r2⟩ := two_rvs rx
    cases r1; cases r2
    exact ⟨_, _, rfl, h0.here R _ (.int _)⟩
  · cases e
/-- a list of numbers, of truths -/
def intsOf : List Val → Option (List Int)
  | [] => some []
  | .int i :: r => (intsOf r).map (i :: ·)
  | _ => none
def blsOf : List Val → Option (List Bool)
  | [] => some []
  | .bl i :: r => (blsOf r).map (i :: ·)
  | _ => none
theorem ints_some : ∀ {vs : List Val} {ns : List Int}, intsOf vs = some ns → vs = ns.map .int
  | [], _, e => by cases e; rfl
  | v :: r, ns, e => by
    cases v with
    | int i =>
      obtain ⟨ms, e1, rfl⟩ := Option.map_eq_some_iff.mp (show (intsOf r).map (i :: ·) = some ns from e)
      rw [ints_some e1]; rfl
    | _ => cases e
theorem bls_some : ∀ {vs : List Val} {ns : List Bool}, blsOf vs = some ns → vs = ns.map .bl
  | [], _, e => by cases e; rfl
  | v :: r, ns, e => by
    cases v with
    | bl i =>
      obtain ⟨ms, e1, rfl⟩ := Option.map_eq_some_iff.mp (show (blsOf r).map (i :: ·) = some ns from e)
      rw [bls_some e1]; rfl
    | _ => cases e
def kSum : List Val → Sto → Out Val := kL fun xs st => match xs with
  | [v] => (listOf st v).bind fun vs => (intsOf vs).map fun ns => .int ns.sum
  | _ => none
def kAll : List Val → Sto → Out Val := kL fun xs st => match xs with
  | [v] => (listOf st v).bind fun vs => (blsOf vs).map fun ns => .bl (ns.all id)
  | _ => none
def kAny : List Val → Sto → Out Val := kL fun xs st => match xs with
  | [v] => (listOf st v).bind fun vs => (blsOf vs).map fun ns => .bl (ns.any id)
  | _ => none
theorem kSum_bears : BearsL X ξ W (rSum X.K) kSum := by
  intro B S ρ st σ H xs vs Q R rx h
  obtain ⟨z, e, h0⟩ := kL_some h
  split at e
  · obtain ⟨us, e1, e2⟩ := Option.bind_eq_some_iff.mp e
    obtain ⟨ns, e3, rfl⟩ := Option.map_eq_some_iff.mp e2
    obtain ⟨w, rfl, rw'⟩ := one_rvs rx
    obtain ⟨p, ws, rfl, hp, rr⟩ := listOf_get R rw' e1
    rw [ints_some e3] at rr
    rw [rr.ints] at hp
    exact ⟨p, ns, rfl, hp, h0.here R _ (.int _)⟩
  · cases e
theorem kAll_bears : BearsL X ξ W (rAll X.K) kAll := by
  intro B S ρ st σ H xs vs Q R rx h
  obtain ⟨z, e, h0⟩ := kL_some h
  split at e
  · obtain ⟨us, e1, e2⟩ := Option.bind_eq_some_iff.mp e
    obtain ⟨ns, e3, rfl⟩ := Option.map_eq_some_iff.mp e2
    obtain ⟨w, rfl, rw'⟩ := one_rvs rx
    obtain ⟨p, ws, rfl, hp, rr⟩ := listOf_get R rw' e1
    rw [bls_some e3] at rr
    rw [rr.bls] at hp
    exact ⟨p, ns, rfl, hp, h0.here R _ (.bl _)⟩
  · cases e
theorem kAny_bears : BearsL X ξ W (rAny X.K) kAny := by
  intro B S ρ st σ H xs vs Q R rx h
  obtain ⟨z, e, h0⟩ := kL_some h
  split at e
  · obtain ⟨us, e1, e2⟩ := Option.bind_eq_some_iff.mp e
    obtain ⟨ns, e3, rfl⟩ := Option.map_eq_some_iff.mp e2
    obtain ⟨w, rfl, rw'⟩ := one_rvs rx
    obtain ⟨p, ws, rfl, hp, rr⟩ := listOf_get R rw' e1
    rw [bls_some e3] at rr
    rw [rr.bls] at hp
    exact ⟨p, ns, rfl, hp, h0.here R _ (.bl _)⟩
  · cases e
/-- a built-in type's name -/
theorem i_ty {x : Str} {p : Pos} (t : BT) (hg : Gl X x) (hm : X.mg x = none) (hv : bootBuiltins x = some (.type t.name)) (hn : x ≠ "__name__" := by decide) (hd : (x == ("__debug__" : Str)) = false := by decide) : PE X (.Name x p) (TI (gt X ξ) W (eC (.ty t))) :=
  (pe_bltn (v := .ty t.name) hg hm hv rfl hn hd).weak fun σ H Q ⟨B, S, ρ, σI, st, R, L, h⟩ => h.here R _ (.ty t)
end
end Bd

namespace Bd
noncomputable section
open PySem L2
def AfterS (G : Gt) (W : WX) (B S : Hp) (ρ : List Addr) (o : SOut) (D : Ends) : Prop :=
  match o with
  | .nx σI st => ∀ S' ρ' H' σ', Step B S ρ S' ρ' → HR G B S' ρ' st H' → SlR G S' ρ' σI σ' → D.nx σ' H'
  | .bk σI st => ∀ S' ρ' H' σ', Step B S ρ S' ρ' → HR G B S' ρ' st H' → SlR G S' ρ' σI σ' → D.bk σ' H'
  | .ct σI st => ∀ S' ρ' H' σ', Step B S ρ S' ρ' → HR G B S' ρ' st H' → SlR G S' ρ' σI σ' → D.ct σ' H'
  | .rt v st => ∀ S' ρ' H' w, Step B S ρ S' ρ' → HR G B S' ρ' st H' → RV G S' ρ' v w → D.rt w H'
  | .er c σI st => ∀ S' ρ' H' σ' C, Step B S ρ S' ρ' → HR G B S' ρ' st H' → SlR G S' ρ' σI σ' → G.mg c = some (.ref C) → W (.ref C) none σ' H'
  | .no => False
def TS' (G : Gt) (W : WX) (f : SI) : TS := fun D σ H => ∃ B S ρ σI st, HR G B S ρ st H ∧ SlR G S ρ σI σ ∧ AfterS G W B S ρ (f σI st) D
theorem AfterS.step {G : Gt} {W : WX} {B S S1 : Hp} {ρ ρ1 : List Addr} {o : SOut} {D : Ends} (h : AfterS G W B S ρ o D) (s : Step B S ρ S1 ρ1) : AfterS G W B S1 ρ1 o D := by
  cases o with
  | nx σI st => exact fun S' ρ' H' σ' s2 => h S' ρ' H' σ' (s.trans s2)
  | bk σI st => exact fun S' ρ' H' σ' s2 => h S' ρ' H' σ' (s.trans s2)
  | ct σI st => exact fun S' ρ' H' σ' s2 => h S' ρ' H' σ' (s.trans s2)
  | rt v st => exact fun S' ρ' H' σ' s2 => h S' ρ' H' σ' (s.trans s2)
  | er c σI st => exact fun S' ρ' H' σ' C s2 => h S' ρ' H' σ' C (s.trans s2)
  | no => exact h
theorem AfterS.imp {G : Gt} {W : WX} {B S : Hp} {ρ : List Addr} {o : SOut} {D D' : Ends} (h : AfterS G W B S ρ o D) (h1 : ∀ σ H, D.nx σ H → D'.nx σ H) (h2 : ∀ v H, D.rt v H → D'.rt v H) (h3 : ∀ σ H, D.bk σ H → D'.bk σ H) (h4 : ∀ σ H, D.ct σ H → D'.ct σ H) : AfterS G W B S ρ o D' := by
  cases o with
  | nx σI st => exact fun S' ρ' H' σ' a b c => h1 _ _ (h S' ρ' H' σ' a b c)
  | bk σI st => exact fun S' ρ' H' σ' a b c => h3 _ _ (h S' ρ' H' σ' a b c)
  | ct σI st => exact fun S' ρ' H' σ' a b c => h4 _ _ (h S' ρ' H' σ' a b c)
  | rt v st => exact fun S' ρ' H' σ' a b c => h2 _ _ (h S' ρ' H' σ' a b c)
  | er c σI st => exact h
  | no => exact h
/-- an expression's outcome into a statement's -/
def sb {α : Type} (x : Out α) (σ : Sg) (k : α → Sto → SOut) : SOut := match x with
  | .ok a st => k a st
  | .er c st => .er c σ st
  | .no => .no
theorem AfterS.sb {α : Type} {G : Gt} {W : WX} {B S : Hp} {ρ : List Addr} {σI : Sg} {σ : St} {x : Out α} {k : α → Sto → SOut} {D : Ends} (h : AfterS G W B S ρ (sb x σI k) D) (L : SlR G S ρ σI σ) :
    After G W B S ρ σ x fun a S1 ρ1 st1 H1 => AfterS G W B S1 ρ1 (k a st1) D := by
  cases x with
  | ok a st => exact fun S' ρ' H' s r => AfterS.step (show AfterS G W B S ρ (k a st) D from h) s
  | er c st => exact fun S' ρ' H' C s r m => h S' ρ' H' σ C s r (L.mono s.s s.r) m
  | no => exact h
/-! ### targets -/
inductive Tg where
  | nm (i : Nat) | tp (ts : List Tg)
mutual
def Tg.g (K : PySem.W.Frag) : Tg → TG
  | .nm i => gName i
  | .tp ts => fun v σ H Q => ∃ a xs, v = .ref a ∧ (SqT K H a xs ∨ SqL K H a xs) ∧ xs.length = ts.length ∧ Tg.gs K ts xs σ H Q
def Tg.gs (K : PySem.W.Frag) : List Tg → TGs
  | [] => gNil
  | t :: ts => gCons (Tg.g K t) (Tg.gs K ts)
end
mutual
def Tg.st (S : Sto) : Tg → Val → Sg → Option Sg
  | .nm i, v, σ => some (σ.set i (some v))
  | .tp ts, v, σ => match seqOf S v with
    | some vs => Tg.sts S ts vs σ
    | none => none
def Tg.sts (S : Sto) : List Tg → List Val → Sg → Option Sg
  | [], [], σ => some σ
  | t :: ts, v :: vs, σ => match Tg.st S t v σ with
    | some σ1 => Tg.sts S ts vs σ1
    | none => none
  | _, _, _ => none
end
mutual
def Tg.slots : Tg → List Nat
  | .nm i => [i]
  | .tp ts => Tg.slotss ts
def Tg.slotss : List Tg → List Nat
  | [] => []
  | t :: ts => Tg.slots t ++ Tg.slotss ts
end
/-- the same but for some slots -/
def But (vs : List Nat) (σ σ' : St) : Prop := σ'.length = σ.length ∧ ∀ i, i ∉ vs → σ'[i]? = σ[i]?
theorem But.trans {a b c : St} {vs us : List Nat} (h : But vs a b) (h' : But us b c) : But (vs ++ us) a c :=
  ⟨h'.1.trans h.1, fun i hi => by simp only [List.mem_append, not_or] at hi; exact (h'.2 i hi.2).trans (h.2 i hi.1)⟩
mutual
theorem Tg.g_of {G : Gt} {B S : Hp} {ρ : List Addr} {st : Sto} {H : Hp} (R : HR G B S ρ st H) : ∀ (t : Tg) {σI σ2 : Sg} {σ : St} {x : Val} {v : V} {Q : St → Hp → Prop}, SlR G S ρ σI σ → RV G S ρ x v → Tg.st st t x σI = some σ2 →
    (∀ σ', SlR G S ρ σ2 σ' → But (Tg.slots t) σ σ' → Q σ' H) → Tg.g G.K t v σ H Q
  | .nm i, σI, σ2, σ, x, v, Q, L, r, e, q => by
    simp only [Tg.st, Option.some.injEq] at e
    subst e
    simp only [Tg.g]
    refine q _ (L.set r i) ⟨by simp, fun j hj => ?_⟩
    simp only [Tg.slots, List.mem_singleton] at hj
    rw [List.getElem?_set_ne (Ne.symm hj)]
  | .tp ts, σI, σ2, σ, x, v, Q, L, r, e, q => by
    simp only [Tg.st] at e
    split at e
    · rename_i vs hv
      obtain ⟨p, ws, rfl, hp, rr⟩ := seqOf_get R r hv
      have hl := Tg.sts_len ts e
      simp only [Tg.g]
      exact ⟨p, ws, rfl, hp.symm, by rw [← rr.length, hl], Tg.gs_of R ts L rr e (fun σ' a b => q σ' a (by simpa only [Tg.slots] using b))⟩
    · cases e
theorem Tg.gs_of {G : Gt} {B S : Hp} {ρ : List Addr} {st : Sto} {H : Hp} (R : HR G B S ρ st H) : ∀ (ts : List Tg) {σI σ2 : Sg} {σ : St} {xs : List Val} {vs : List V} {Q : St → Hp → Prop}, SlR G S ρ σI σ → RVs G S ρ xs vs → Tg.sts st ts xs σI = some σ2 →
    (∀ σ', SlR G S ρ σ2 σ' → But (Tg.slotss ts) σ σ' → Q σ' H) → Tg.gs G.K ts vs σ H Q
  | [], σI, σ2, σ, xs, vs, Q, L, r, e, q => by
    cases r with
    | nil =>
      simp only [Tg.sts, Option.some.injEq] at e
      subst e
      simp only [Tg.gs]
      exact ⟨rfl, q _ L ⟨rfl, fun _ _ => rfl⟩⟩
    | cons _ _ => simp only [Tg.sts] at e; cases e
  | t :: ts, σI, σ2, σ, xs, vs, Q, L, r, e, q => by
    cases r with
    | nil => simp only [Tg.sts] at e; cases e
    | cons r1 r2 =>
      simp only [Tg.sts] at e
      split at e
      · rename_i σ1 e1
        simp only [Tg.gs]
        refine ⟨_, _, rfl, Tg.g_of R t L r1 e1 fun σ' L1 b1 => Tg.gs_of R ts L1 r2 e fun σ'' L2 b2 => q σ'' L2 ?_⟩
        simp only [Tg.slotss]
        exact b1.trans b2
      · cases e
theorem Tg.sts_len {st : Sto} : ∀ (ts : List Tg) {xs : List Val} {σ σ2 : Sg}, Tg.sts st ts xs σ = some σ2 → xs.length = ts.length
  | [], xs, σ, σ2, e => by
    cases xs with
    | nil => rfl
    | cons _ _ => simp only [Tg.sts] at e; cases e
  | t :: ts, xs, σ, σ2, e => by
    cases xs with
    | nil => simp only [Tg.sts] at e; cases e
    | cons x xs =>
      simp only [Tg.sts] at e
      split at e
      · rw [List.length_cons, List.length_cons, Tg.sts_len ts e]
      · cases e
end
/-! ### statements -/
def sSeq (f g : SI) : SI := fun σ st => match f σ st with
  | .nx σ1 st1 => g σ1 st1
  | r => r
def sPass : SI := fun σ st => .nx σ st
def sBreak : SI := fun σ st => .bk σ st
def sCont : SI := fun σ st => .ct σ st
def sExpr (f : EI) : SI := fun σ st => sb (f σ st) σ fun _ st1 => .nx σ st1
def sRet (f : EI) : SI := fun σ st => sb (f σ st) σ fun v st1 => .rt v st1
def sRetN : SI := fun σ st => .rt .non st
def sAsg (t : Tg) (f : EI) : SI := fun σ st => sb (f σ st) σ fun v st1 => match Tg.st st1 t v σ with
  | some σ1 => .nx σ1 st1
  | none => .no
def sIf (c : BI) (a b : SI) : SI := fun σ st => sb (c σ st) σ fun d st1 => if d = true then a σ st1 else b σ st1
def sAug (i : Nat) (f : EI) : SI := fun σ st => match σ[i]? with
  | some (some (.int a)) => sb (f σ st) σ fun v st1 => match v with
    | .int b => .nx (σ.set i (some (.int (a + b)))) st1
    | _ => .no
  | _ => .no
def sRaise (c : Str) : SI := fun σ st => .er c σ st
/-- for: t over items; still: what is walked stands -/
def forL (t : Tg) (body : SI) (still : Sto → Prop) : List Val → SI
  | [], σ, st => .nx σ st
  | v :: vs, σ, st => match Tg.st st t v σ with
    | none => .no
    | some σ1 => match body σ1 st with
      | .nx σ2 st2 => open Classical in if still st2 then forL t body still vs σ2 st2 else .no
      | .ct σ2 st2 => open Classical in if still st2 then forL t body still vs σ2 st2 else .no
      | .bk σ2 st2 => .nx σ2 st2
      | r => r
abbrev II := Sg → Sto → Out (List Val × (Sto → Prop))
def sFor (it : II) (t : Tg) (body : SI) : SI := fun σ st => sb (it σ st) σ fun x st1 => open Classical in if x.2 st1 then forL t body x.2 x.1 σ st1 else .no
def iSeq (f : EI) : II := fun σ st => (f σ st).bind fun v st1 => match seqOf st1 v with
  | some vs => .ok (vs, fun st' => seqOf st' v = some vs) st1
  | none => .no
def rangeV (lo : Int) (n : Nat) : List Val := (List.range n).map fun k => .int (lo + (k : Nat))
/-- below 2^62 either way; written so that no number is unfolded -/
def small62 (i : Int) : Bool := Nat.blt i.natAbs (2 ^ 62)
theorem small62_to {i : Int} (h : small62 i = true) : -(2 ^ 62) ≤ i ∧ i < 2 ^ 62 := by
  unfold small62 at h
  have h2 : i.natAbs < 2 ^ 62 := by simpa [Nat.blt_eq] using h
  have e : ((2 ^ 62 : Nat) : Int) = (2 : Int) ^ 62 := by decide
  generalize (2 : Int) ^ 62 = X at *
  generalize (2 : Nat) ^ 62 = Y at *
  omega
def iRange1 (f : EI) : II := fun σ st => (f σ st).bind fun v st1 => match v with
  | .int n => if small62 n = true then .ok (rangeV 0 n.toNat, fun _ => True) st1 else .no
  | _ => .no
def iRange2 (f g : EI) : II := fun σ st => (f σ st).bind fun a st1 => (g σ st1).bind fun b st2 => match a, b with
  | .int lo, .int hi => if small62 lo = true ∧ small62 hi = true then .ok (rangeV lo (hi - lo).toNat, fun _ => True) st2 else .no
  | _, _ => .no
def enumV : Nat → List Val → List Val
  | _, [] => []
  | k, v :: vs => .tup [.int (k : Nat), v] :: enumV (k + 1) vs
def zipV : List Val → List Val → List Val
  | a :: as, b :: bs => .tup [a, b] :: zipV as bs
  | _, _ => []
def iEnum' (f : EI) : II := fun σ st => (f σ st).bind fun v st1 => match listOf st1 v with
  | some vs => .ok (enumV 0 vs, fun st' => listOf st' v = some vs) st1
  | none => .no
def iZip' (f g : EI) : II := fun σ st => (f σ st).bind fun a st1 => (g σ st1).bind fun b st2 => match listOf st2 a, listOf st2 b with
  | some vs, some us => .ok (zipV vs us, fun st' => listOf st' a = some vs ∧ listOf st' b = some us) st2
  | _, _ => .no
/-- while -/
def whileF (c : BI) (body : SI) : Nat → SI
  | 0, _, _ => .no
  | n + 1, σ, st => sb (c σ st) σ fun d st1 => if d = true then (match body σ st1 with
      | .nx σ2 st2 => whileF c body n σ2 st2
      | .ct σ2 st2 => whileF c body n σ2 st2
      | .bk σ2 st2 => .nx σ2 st2
      | r => r) else .nx σ st1
open Classical in
def sWhile (c : BI) (body : SI) : SI := fun σ st => if h : ∃ n, whileF c body n σ st ≠ .no then whileF c body (Classical.choose h) σ st else .no
end
end Bd

namespace Bd
noncomputable section
open PySem L2
/-- a, b = x, y with plain local names -/
def sPar2 (i j : Nat) (r : AI) : SI := fun σ st => sb (r σ st) σ fun vs st1 => match vs with
  | [a, b] => .nx ((σ.set i (some a)).set j (some b)) st1
  | _ => .no
def sPar3 (i j l : Nat) (r : AI) : SI := fun σ st => sb (r σ st) σ fun vs st1 => match vs with
  | [a, b, c] => .nx (((σ.set i (some a)).set j (some b)).set l (some c)) st1
  | _ => .no
def TIt (G : Gt) (W : WX) (f : II) : L2.TI := fun σ H Rr => ∃ B S ρ σI st, HR G B S ρ st H ∧ SlR G S ρ σI σ ∧ After G W B S ρ σ (f σI st) fun x S1 ρ1 st1 H1 =>
  ∀ (J : It) (Gd : Hp → Prop) (Y : Nat → Hp → V → Hp → Prop), Walk J x.1.length Gd Y → (∀ S2 ρ2 st2 H2, Step B S1 ρ1 S2 ρ2 → HR G B S2 ρ2 st2 H2 → x.2 st2 → Gd H2) →
    (∀ i S2 ρ2 st2 H2 y H3, i < x.1.length → Step B S1 ρ1 S2 ρ2 → HR G B S2 ρ2 st2 H2 → x.2 st2 → Y i H2 y H3 → ∃ S3 v, Step B S2 ρ2 S3 ρ2 ∧ HR G B S3 ρ2 st2 H3 ∧ (∀ p o, S2 p = none → H2 p = some o → S3 p = none ∧ H3 p = some o) ∧ x.1[i]? = some v ∧ RV G S3 ρ2 v y) → Rr J H1
/-- what is yielded at a turn: one item, the heap as it was; or a new pair -/
theorem yields_at {G : Gt} {B S2 : Hp} {ρ2 : List Addr} {st2 : Sto} {H2 H3 : Hp} (R : HR G B S2 ρ2 st2 H2) {v : Val} {y : V} (e : H3 = H2) (r : RV G S2 ρ2 v y) : ∃ S3 v', Step B S2 ρ2 S3 ρ2 ∧ HR G B S3 ρ2 st2 H3 ∧ (∀ p o, S2 p = none → H2 p = some o → S3 p = none ∧ H3 p = some o) ∧ some v = some v' ∧ RV G S3 ρ2 v' y := by
  subst e
  exact ⟨S2, v, Step.refl, R, fun p o a b => ⟨a, b⟩, rfl, r⟩
theorem yields_pair {G : Gt} {B S2 : Hp} {ρ2 : List Addr} {st2 : Sto} {H2 H3 : Hp} (R : HR G B S2 ρ2 st2 H2) {T : Addr} {a b : Val} {x y : V} (hT : H2 T = none) (e : H3 = upd H2 T (.tup [x, y])) (ra : RV G S2 ρ2 a x) (rb : RV G S2 ρ2 b y) :
    ∃ S3 v', Step B S2 ρ2 S3 ρ2 ∧ HR G B S3 ρ2 st2 H3 ∧ (∀ p o, S2 p = none → H2 p = some o → S3 p = none ∧ H3 p = some o) ∧ some (Val.tup [a, b]) = some v' ∧ RV G S3 ρ2 v' (.ref T) := by
  subst e
  obtain ⟨R', s'⟩ := R.fix hT (.tup [x, y])
  refine ⟨_, _, s', R', fun p o h1 h2 => ?_, rfl, .tup upd_same (.cons (ra.mono s'.s s'.r) (.cons (rb.mono s'.s s'.r) .nil))⟩
  have ne : p ≠ T := ne_of_none h2 hT
  exact ⟨by rw [upd_ne ne]; exact h1, by rw [upd_ne ne]; exact h2⟩
section
variable {X : Cx} {ξ : Exo} {W : WX} {e a b c : Expr} {es : List Expr} {tg iter : Expr} {f fa fb : EI} {r : AI} {ba : BI} {sa sb' : SI} {st : Stmt} {rest bodyS elseS : List Stmt} {t : Tg} {ts : List Tg} {pos : Pos}
/-! targets -/
theorem g_nm {i : Nat} {x : Str} (hN : X.N.Nodup) (hi : X.N[i]? = some x) (hx : Loc X.env.scope x) (hf : X.fn x = true ∨ X.env.scope.names.lookup x = some .local := by first | exact .inl rfl | exact .inr rfl | assumption) : PG X (.Name x pos) (Tg.g X.K (.nm i)) := by
  simp only [Tg.g]; exact pg_name hN hi hx hf
theorem gs_nil : PGs X [] (Tg.gs X.K []) := by simp only [Tg.gs]; exact pgs_nil
theorem gs_cons (h1 : PG X e (Tg.g X.K t)) (h2 : PGs X es (Tg.gs X.K ts)) (hs : (assignEach (e :: es) X.env).map (·.2) = assign e X.env :: (assignEach es X.env).map (·.2) := by rfl) : PGs X (e :: es) (Tg.gs X.K (t :: ts)) := by
  simp only [Tg.gs]; exact pgs_cons h1 h2 hs
theorem g_tp {k n : Nat} (hc : X.calm = true) (h : PGs X es (Tg.gs X.K ts)) (hl : ts.length = n := by rfl) (hn : (assignEach es X.env).length = n := by rfl) (hst : (assignEach es X.env).findIdx? (·.1) = none := by rfl) : PG X (.Tuple es k pos) (Tg.g X.K (.tp ts)) := by
  subst hl
  refine ⟨fun pins s σ H v u Q I r hw => ?_⟩
  simp only [Tg.g] at hw
  obtain ⟨p, xs, rfl, hq, hl, hw⟩ := hw
  rcases hq with hq | hq
  · exact (pg_tup hc h hn hst).run pins s σ H _ u Q I r ⟨p, xs, rfl, hq, hl, hw⟩
  · exact (pg_unl hc h hn hst).run pins s σ H _ u Q I r ⟨p, xs, rfl, hq, hl, hw⟩
/-! statements -/
theorem ss_nil : PSs X [] (TS' (gt X ξ) W sPass) := pss_nil.weak fun D σ H ⟨B, S, ρ, σI, st, R, L, h⟩ => h S ρ H σ Step.refl R L
theorem ss_cons (h1 : PS X st (TS' (gt X ξ) W sa)) (h2 : PSs X rest (TS' (gt X ξ) W sb')) : PSs X (st :: rest) (TS' (gt X ξ) W (sSeq sa sb')) := by
  refine (pss_cons h1 h2).weak fun D σ H ⟨B, S, ρ, σI, st, R, L, h⟩ => ⟨B, S, ρ, σI, st, R, L, ?_⟩
  unfold sSeq at h
  revert h
  cases sa σI st with
  | nx σ1 st1 => exact fun h S' ρ' H' σ' s R' L' => ⟨B, S', ρ', σ1, st1, R', L', AfterS.step h s⟩
  | bk σI st => exact fun h => h
  | ct σI st => exact fun h => h
  | rt v st => exact fun h => h
  | er c σI st => exact fun h => h
  | no => exact fun h => h
theorem ss_one (h1 : PS X st (TS' (gt X ξ) W sa)) : PSs X [st] (TS' (gt X ξ) W sa) := pss_one h1
theorem s_pass : PS X (.Pass pos) (TS' (gt X ξ) W sPass) := ps_pass.weak fun D σ H ⟨B, S, ρ, σI, st, R, L, h⟩ => h S ρ H σ Step.refl R L
theorem s_break : PS X (.Break pos) (TS' (gt X ξ) W sBreak) := ps_break.weak fun D σ H ⟨B, S, ρ, σI, st, R, L, h⟩ => h S ρ H σ Step.refl R L
theorem s_cont : PS X (.Continue pos) (TS' (gt X ξ) W sCont) := ps_continue.weak fun D σ H ⟨B, S, ρ, σI, st, R, L, h⟩ => h S ρ H σ Step.refl R L
theorem s_doc {x j pos'} : PS X (.Expr (.Constant (.str x) j pos) pos') (TS' (gt X ξ) W sPass) := ps_doc.weak fun D σ H ⟨B, S, ρ, σI, st, R, L, h⟩ => h S ρ H σ Step.refl R L
theorem s_expr (he : PE X e (TI (gt X ξ) W f)) (hs : swapsWith e none pos.line X.env = pure false := by rfl) : PS X (.Expr e pos) (TS' (gt X ξ) W (sExpr f)) := by
  refine (ps_expr he hs).weak fun D σ H ⟨B, S, ρ, σI, st, R, L, h⟩ => ?_
  exact ⟨B, S, ρ, σI, st, R, L, (AfterS.sb h L).imp fun x S1 ρ1 st1 H1 s1 R1 h1 w r1 => h1 S1 ρ1 H1 σ Step.refl R1 (L.mono s1.s s1.r)⟩
theorem s_ret (he : PE X e (TI (gt X ξ) W f)) : PS X (.Return (some e) pos) (TS' (gt X ξ) W (sRet f)) := by
  refine (ps_ret he).weak fun D σ H ⟨B, S, ρ, σI, st, R, L, h⟩ => ?_
  exact ⟨B, S, ρ, σI, st, R, L, (AfterS.sb h L).imp fun x S1 ρ1 st1 H1 s1 R1 h1 w r1 => h1 S1 ρ1 H1 w Step.refl R1 r1⟩
theorem s_retN : PS X (.Return none pos) (TS' (gt X ξ) W sRetN) := ps_retN.weak fun D σ H ⟨B, S, ρ, σI, st, R, L, h⟩ => h S ρ H _ Step.refl R .non
theorem s_asg (he : PE X e (TI (gt X ξ) W f)) (hg : PG X tg (Tg.g X.K t)) (hs : swapsWithSole [tg] e pos.line X.env = pure false := by rfl) (hw : swappedStores [tg] e X.env = pure none := by rfl)
    (h1 : (assignEach [tg] X.env).map (·.2) = [assign tg X.env] := by rfl) : PS X (.Assign [tg] e pos) (TS' (gt X ξ) W (sAsg t f)) := by
  refine (ps_asg he hg hs hw h1).weak fun D σ H ⟨B, S, ρ, σI, st, R, L, h⟩ => ?_
  refine ⟨B, S, ρ, σI, st, R, L, (AfterS.sb h L).imp fun x S1 ρ1 st1 H1 s1 R1 h1 w r1 => ?_⟩
  split at h1
  · rename_i σ1 e1
    exact Tg.g_of R1 t (L.mono s1.s s1.r) r1 e1 fun σ' L' _ => h1 S1 ρ1 H1 σ' Step.refl R1 L'
  · exact h1.elim
theorem s_par2 {i j : Nat} {x y : Str} {px py pt : Pos} {kt k2 pt2} (hc : X.calm = true) (hN : X.N.Nodup) (hi : X.N[i]? = some x) (hj : X.N[j]? = some y) (hij : i ≠ j)
    (hx : X.env.scope.names.lookup x = some .local) (hy : X.env.scope.names.lookup y = some .local) (ha : PA X [a, b] (TL (gt X ξ) W r))
    (hw : swappedStores [.Tuple [.Name x px, .Name y py] kt pt] (.Tuple [a, b] k2 pt2) X.env = pure (some [x, y]) := by rfl)
    (hs : swapsWithSole [.Tuple [.Name x px, .Name y py] kt pt] (.Tuple [a, b] k2 pt2) pos.line X.env = pure false := by rfl) :
    PS X (.Assign [.Tuple [.Name x px, .Name y py] kt pt] (.Tuple [a, b] k2 pt2) pos) (TS' (gt X ξ) W (sPar2 i j r)) := by
  refine (ps_par hc hN hi hj hij hx hy ha hw hs).weak fun D σ H ⟨B, S, ρ, σI, st, R, L, h⟩ => ?_
  refine ⟨B, S, ρ, σI, st, R, L, (AfterS.sb h L).imp fun xs S1 ρ1 st1 H1 s1 R1 h1 ws r1 => ?_⟩
  split at h1
  · obtain ⟨w1, w2, rfl, q1, q2⟩ := two_rvs r1
    exact ⟨w1, w2, rfl, h1 S1 ρ1 H1 _ Step.refl R1 (((L.mono s1.s s1.r).set q1 i).set q2 j)⟩
  · exact h1.elim
theorem s_if (hc : PT X c (TB (gt X ξ) W ba)) (ha : PSs X bodyS (TS' (gt X ξ) W sa)) (hb : PSs X elseS (TS' (gt X ξ) W sb')) : PS X (.If c bodyS elseS pos) (TS' (gt X ξ) W (sIf ba sa sb')) := by
  refine (ps_if hc ha hb).weak fun D σ H ⟨B, S, ρ, σI, st, R, L, h⟩ => ?_
  refine ⟨B, S, ρ, σI, st, R, L, (AfterS.sb h L).imp fun d S1 ρ1 st1 H1 s1 R1 h1 => ?_⟩
  cases d with
  | true => rw [if_pos rfl] at h1 ⊢; exact ⟨B, S1, ρ1, σI, st1, R1, L.mono s1.s s1.r, h1⟩
  | false => rw [if_neg Bool.false_ne_true] at h1 ⊢; exact ⟨B, S1, ρ1, σI, st1, R1, L.mono s1.s s1.r, h1⟩
theorem s_aug {i : Nat} {x : Str} {pos' : Pos} (hN : X.N.Nodup) (hi : X.N[i]? = some x) (hx : Loc X.env.scope x) (he : PE X e (TI (gt X ξ) W f)) (hf : X.fn x = true ∨ X.env.scope.names.lookup x = some .local := by first | exact .inl rfl | exact .inr rfl | assumption) :
    PS X (.AugAssign (.Name x pos') .Add e pos) (TS' (gt X ξ) W (sAug i f)) := by
  refine (ps_aug hN hi hx he ip_add hf).weak fun D σ H ⟨B, S, ρ, σI, st, R, L, h⟩ => ?_
  unfold sAug at h
  split at h
  · rename_i n e1
    obtain ⟨w, e2, r2⟩ := L.2 i _ e1
    cases r2
    refine ⟨_, e2, B, S, ρ, σI, st, R, L, (AfterS.sb h L).imp fun x S1 ρ1 st1 H1 s1 R1 h1 w r1 => ?_⟩
    cases x with
    | int m => cases r1; exact ⟨_, _, rfl, rfl, h1 S1 ρ1 H1 _ Step.refl R1 ((L.mono s1.s s1.r).set (.int _) i)⟩
    | _ => exact h1.elim
  · exact h.elim
/-! loops -/
theorem s_for {it : II} {body : SI} (hp : PassesOwn (model X.prog X.w) X.A X.env X.xe) (hc : X.calm = true) (hi : PI X tg iter (TIt (gt X ξ) W it)) (hg : PG X tg (Tg.g X.K t)) (hb : PSs X bodyS (TS' (gt X ξ) W body))
    (hs : ∀ x, foldedSetIterable iter X.env x = pure x := by intro _; rfl) : PS X (.For tg iter bodyS [] pos) (TS' (gt X ξ) W (sFor it t body)) := by
  refine (ps_for hp hc hi hg hb hs).weak fun D σ H ⟨B, S, ρ, σI, st, R, L, h⟩ => ?_
  refine ⟨B, S, ρ, σI, st, R, L, (AfterS.sb h L).imp fun x S1 ρ1 st1 H1 s1 R1 h1 J Gd Y w hG hY => ?_⟩
  obtain ⟨items, still⟩ := x
  dsimp only at h1 w hG hY
  by_cases hst : still st1
  · rw [if_pos hst] at h1
    refine for_it w (fun i σ H => ∃ S2 ρ2 σI2 st2, Step B S1 ρ1 S2 ρ2 ∧ HR (gt X ξ) B S2 ρ2 st2 H ∧ SlR (gt X ξ) S2 ρ2 σI2 σ ∧ still st2 ∧ AfterS (gt X ξ) W B S2 ρ2 (forL t body still (items.drop i) σI2 st2) D) ?_ ?_ ?_ ?_
    · exact ⟨S1, ρ1, σI, st1, Step.refl, R1, L.mono s1.s s1.r, hst, by simpa using h1⟩
    · rintro i σ2 H2 hi ⟨S2, ρ2, σI2, st2, s2, R2, L2', h2, _⟩
      exact hG S2 ρ2 st2 H2 s2 R2 h2
    · rintro i x σ2 H2 H3 hi ⟨S2, ρ2, σI2, st2, s2, R2, L2', h2, h3⟩ y
      obtain ⟨S3, v, s3, R3, _, ev, rv⟩ := hY i S2 ρ2 st2 H2 x H3 hi s2 R2 h2 y
      have ed : items.drop i = v :: items.drop (i + 1) := by
        have e2 : items[i]? = some v := ev
        have hi' : i < items.length := hi
        rw [List.getElem?_eq_getElem hi'] at e2
        rw [List.drop_eq_getElem_cons hi', Option.some.inj e2]
      rw [ed] at h3
      unfold forL at h3
      split at h3
      · exact h3.elim
      · rename_i σ1 e1
        refine Tg.g_of R3 t (L2'.mono s3.s s3.r) rv e1 fun σ' L4 _ => ⟨B, S3, ρ2, σ1, st2, R3, L4, ?_⟩
        have h4 := AfterS.step h3 s3
        have fin : ∀ σ4 st4, AfterS (gt X ξ) W B S3 ρ2 (open Classical in if still st4 then forL t body still (items.drop (i + 1)) σ4 st4 else .no) D → ∀ S' ρ' H' σ', Step B S3 ρ2 S' ρ' → HR (gt X ξ) B S' ρ' st4 H' → SlR (gt X ξ) S' ρ' σ4 σ' →
            ∃ S2 ρ2 σI2 st2, Step B S1 ρ1 S2 ρ2 ∧ HR (gt X ξ) B S2 ρ2 st2 H' ∧ SlR (gt X ξ) S2 ρ2 σI2 σ' ∧ still st2 ∧ AfterS (gt X ξ) W B S2 ρ2 (forL t body still (items.drop (i + 1)) σI2 st2) D := by
          intro σ4 st4 h5 S' ρ' H' σ' s5 R5 L5
          by_cases h6 : still st4
          · rw [if_pos h6] at h5
            exact ⟨S', ρ', σ4, st4, s2.trans (s3.trans s5), R5, L5, h6, AfterS.step h5 s5⟩
          · rw [if_neg h6] at h5; exact h5.elim
        revert h4
        cases body σ1 st2 with
        | nx σ4 st4 => exact fun h4 => fin σ4 st4 h4
        | ct σ4 st4 => exact fun h4 => fin σ4 st4 h4
        | bk σ4 st4 => exact fun h4 => h4
        | rt v st4 => exact fun h4 => h4
        | er c σ4 st4 => exact fun h4 => h4
        | no => exact fun h4 => h4
    · rintro σ2 H2 ⟨S2, ρ2, σI2, st2, s2, R2, L2', h2, h3⟩
      have ed : items.drop items.length = [] := List.drop_length
      rw [ed] at h3
      exact h3 S2 ρ2 H2 σ2 Step.refl R2 L2'
  · rw [if_neg hst] at h1; exact h1.elim
theorem whileF_more {c : BI} {body : SI} : ∀ {n m : Nat} {σ : Sg} {st : Sto}, n ≤ m → whileF c body n σ st ≠ .no → whileF c body m σ st = whileF c body n σ st := by
  intro n
  induction n with
  | zero => intro m σ st _ h; exact absurd rfl h
  | succ n ih =>
    intro m σ st hm h
    obtain ⟨m, rfl⟩ : ∃ k, m = k + 1 := ⟨m - 1, by omega⟩
    unfold whileF at h ⊢
    revert h
    cases c σ st with
    | ok d st1 =>
      unfold sb
      cases d with
      | false => intro _; rfl
      | true =>
        simp only [if_true]
        cases body σ st1 with
        | nx σ2 st2 => exact fun h => ih (by omega) h
        | ct σ2 st2 => exact fun h => ih (by omega) h
        | _ => intro _; rfl
    | er c st1 => intro _; rfl
    | no => intro _; rfl
theorem sWhile_eq {c : BI} {body : SI} {n : Nat} {σ : Sg} {st : Sto} (h : whileF c body n σ st ≠ .no) : sWhile c body σ st = whileF c body n σ st := by
  have hx : ∃ n, whileF c body n σ st ≠ .no := ⟨n, h⟩
  have hc := Classical.choose_spec hx
  unfold sWhile
  rw [dif_pos hx]
  rcases Nat.le_total n (Classical.choose hx) with q | q
  · exact whileF_more q h
  · exact (whileF_more q hc).symm
theorem s_while {body : SI} (hp : PassesOwn (model X.prog X.w) X.A X.env X.xe) (hc : PT X c (TB (gt X ξ) W ba)) (hb : PSs X bodyS (TS' (gt X ξ) W body)) : PS X (.While c bodyS [] pos) (TS' (gt X ξ) W (sWhile ba body)) := by
  refine (ps_while hp hc hb).weak fun D σ H ⟨B, S, ρ, σI, st, R, L, h⟩ => ?_
  have hx : ∃ n, whileF ba body n σI st ≠ .no := by
    unfold sWhile at h
    split at h
    · assumption
    · exact h.elim
  obtain ⟨n, hn⟩ := hx
  rw [sWhile_eq hn] at h
  refine ⟨fun m σ H => ∃ S ρ σI st, HR (gt X ξ) B S ρ st H ∧ SlR (gt X ξ) S ρ σI σ ∧ AfterS (gt X ξ) W B S ρ (whileF ba body m σI st) D, ⟨n, S, ρ, σI, st, R, L, h⟩, ?_⟩
  rintro m σ H ⟨S, ρ, σI, st, R, L, h⟩
  cases m with
  | zero => exact h.elim
  | succ m =>
    unfold whileF at h
    refine ⟨B, S, ρ, σI, st, R, L, (AfterS.sb h L).imp fun d S1 ρ1 st1 H1 s1 R1 h1 => ?_⟩
    cases d with
    | false => rw [if_neg Bool.false_ne_true] at h1 ⊢; exact h1 S1 ρ1 H1 σ Step.refl R1 (L.mono s1.s s1.r)
    | true =>
      rw [if_pos rfl] at h1 ⊢
      refine ⟨fun σ' H' => ∃ S ρ σI st, HR (gt X ξ) B S ρ st H' ∧ SlR (gt X ξ) S ρ σI σ' ∧ AfterS (gt X ξ) W B S ρ (whileF ba body m σI st) D, fun σ' H' q => ⟨m, Nat.lt_succ_self m, q⟩, B, S1, ρ1, σI, st1, R1, L.mono s1.s s1.r, ?_⟩
      revert h1
      cases body σI st1 with
      | nx σ4 st4 => exact fun h4 S' ρ' H' σ' s5 R5 L5 => ⟨S', ρ', σ4, st4, R5, L5, AfterS.step h4 s5⟩
      | ct σ4 st4 => exact fun h4 S' ρ' H' σ' s5 R5 L5 => ⟨S', ρ', σ4, st4, R5, L5, AfterS.step h4 s5⟩
      | bk σ4 st4 => exact fun h4 => h4
      | rt v st4 => exact fun h4 => h4
      | er c σ4 st4 => exact fun h4 => h4
      | no => exact fun h4 => h4
/-! ### what is walked -/
theorem pi_seqV {tl : TE} {l : Expr} (hl : PE X l tl) : PI X tg l (fun σ H R => tl σ H fun x H1 => (∃ a, x = .ref a ∧ (∃ xs, SqL X.K H1 a xs) ∧ R (Itl X.K a) H1) ∨ (∃ a, x = .ref a ∧ (∃ xs, SqT X.K H1 a xs) ∧ R (Itt X.K a) H1)) := by
  refine ⟨fun pins s σ H R I h => ?_⟩
  refine L2.thn (hl.run pins s σ H _ I h) fun v s1 ⟨x, H1, I1, r1, q1⟩ => ?_
  rcases q1 with ⟨a, e, ⟨xs, hq⟩, q⟩ | ⟨a, e, ⟨xs, hq⟩, q⟩
  · subst e
    cases r1
    obtain ⟨its, rv, p, hz⟩ := I1.list hq
    refine wpAny_pyIter_list p.isList ?_
    refine ⟨s1.heap.objs.size, [s1.heap.objs.size], _, _, H1, rfl, I1.kept (t' := s1.toks) fun b o e => Heap.get?_push_of_some _ e, turn_list a _, ⟨_, Heap.get?_push_size _ rfl, rfl, rfl⟩, fun b hb => ?_, q⟩
    have e : b = s1.heap.objs.size := by simpa using hb
    subst e
    exact I1.fpOk (Nat.le_refl _) (I1.hok.fresh (Nat.le_refl _))
  · subst e
    cases r1
    obtain ⟨its, rv, p, hz⟩ := I1.tuple hq
    refine wpAny_pyIter_tuple (show s1.heap.IsTuple a its.toArray from p) ?_
    refine ⟨s1.heap.objs.size, [s1.heap.objs.size], _, _, H1, rfl, I1.kept (t' := s1.toks) fun b o e => Heap.get?_push_of_some _ e, turn_tuple a _, ⟨_, Heap.get?_push_size _ rfl, rfl, rfl⟩, fun b hb => ?_, q⟩
    have e : b = s1.heap.objs.size := by simpa using hb
    subst e
    exact I1.fpOk (Nat.le_refl _) (I1.hok.fresh (Nat.le_refl _))
theorem _root_.L2.PI.weak {X : Cx} {tg e : Expr} {t t' : L2.TI} (h : PI X tg e t) (f : ∀ σ H Q, t' σ H Q → t σ H Q) : PI X tg e t' := ⟨fun pins s σ H Q I q => h.run pins s σ H Q I (f _ _ _ q)⟩
theorem it_seq (hl : PE X e (TI (gt X ξ) W f)) : PI X tg e (TIt (gt X ξ) W (iSeq f)) := by
  refine (pi_seqV hl).weak fun σ H Rr ⟨B, S, ρ, σI, st, R, L, h⟩ => ?_
  refine ⟨B, S, ρ, σI, st, R, L, (After.bind h).imp fun x S1 ρ1 st1 H1 s1 R1 h1 w r1 => ?_⟩
  split at h1
  · rename_i vs ev
    have h2 := h1.here R1
    dsimp only at h2
    cases r1 with
    | tup x1 x2 =>
      have e3 : vs = _ := (Option.some.inj ev).symm
      subst e3
      refine .inr ⟨_, rfl, ⟨_, SqT.of (R1.s _ _ x1)⟩, ?_⟩
      refine h2 (Itt X.K _) (fun H => SqT X.K H _ _) (YAt _) (by rw [x2.length]; exact walk_tup) (fun S2 ρ2 st2 H2 s2 R2 _ => SqT.of (R2.s _ _ (s2.s _ _ x1))) (fun i S2 ρ2 st2 H2 y H3 hi s2 R2 _ yy => ?_)
      obtain ⟨e4, e5⟩ := yy
      obtain ⟨v2, e6, r6⟩ := (x2.mono s2.s s2.r).get' e5
      rw [e6]
      exact yields_at R2 e4 r6
    | lst x1 x2 =>
      have e3 : vs = _ := (Option.some.inj ev).symm
      subst e3
      refine .inl ⟨_, rfl, ⟨_, SqL.of (R1.s _ _ x1)⟩, ?_⟩
      refine h2 (Itl X.K _) (fun H => SqL X.K H _ _) (YAt _) (by rw [x2.length]; exact walk_list) (fun S2 ρ2 st2 H2 s2 R2 _ => SqL.of (R2.s _ _ (s2.s _ _ x1))) (fun i S2 ρ2 st2 H2 y H3 hi s2 R2 _ yy => ?_)
      obtain ⟨e4, e5⟩ := yy
      obtain ⟨v2, e6, r6⟩ := (x2.mono s2.s s2.r).get' e5
      rw [e6]
      exact yields_at R2 e4 r6
    | scr x1 x2 =>
      have e3 : vs = _ := (Option.some.inj ev).symm
      subst e3
      refine .inl ⟨_, rfl, ⟨_, L2.Same.seq R1.s x1⟩, ?_⟩
      refine h2 (Itl X.K _) (fun H => SqL X.K H _ _) (YAt _) (by rw [x2.length]; exact walk_list) (fun S2 ρ2 st2 H2 s2 R2 _ => L2.Same.seq R2.s (L2.Same.seq s2.s x1)) (fun i S2 ρ2 st2 H2 y H3 hi s2 R2 _ yy => ?_)
      obtain ⟨e4, e5⟩ := yy
      obtain ⟨v2, e6, r6⟩ := (x2.mono s2.s s2.r).get' e5
      rw [e6]
      exact yields_at R2 e4 r6
    | @ref ix p x1 =>
      obtain ⟨ws1, h3, h4⟩ := ref_get R1 x1 ev
      refine .inl ⟨p, rfl, ⟨_, SqL.of h3⟩, ?_⟩
      refine h2 (Itl X.K p) (fun H => ∃ ws2 : List V, SqL X.K H p ws2 ∧ ws2.length = vs.length) (fun i H y H' => H' = H ∧ ∀ ws2, SqL X.K H p ws2 → ws2[i]? = some y) ⟨?_, ?_, ?_⟩ ?_ ?_
      · rintro i H hi ⟨ws2, q1, q2⟩
        have hi : i < vs.length := hi
        exact ⟨ws2, ws2[i], q1, by simp [show i < ws2.length by omega]⟩
      · rintro H ⟨ws2, q1, q2⟩
        exact ⟨ws2, q1, Nat.le_of_eq q2⟩
      · rintro i H y H' hi _ y'
        exact y'
      · intro S2 ρ2 st2 H2 s2 R2 e2
        obtain ⟨ws3, h5, h6⟩ := ref_get R2 (pre_get s2.r x1) e2
        exact ⟨ws3, SqL.of h5, h6.length.symm⟩
      · intro i S2 ρ2 st2 H2 y H3 hi s2 R2 e2 yy
        obtain ⟨e4, e5⟩ := yy
        obtain ⟨ws3, h5, h6⟩ := ref_get R2 (pre_get s2.r x1) e2
        obtain ⟨v2, e6, r6⟩ := h6.get' (e5 ws3 (SqL.of h5))
        rw [e6]
        exact yields_at R2 e4 r6
    | _ => cases ev
  · exact h1.elim
theorem rangeV_get {lo : Int} {n i : Nat} (h : i < n) : (rangeV lo n)[i]? = some (.int (lo + (i : Nat))) := by
  unfold rangeV
  rw [List.getElem?_map, List.getElem?_range h]; rfl
theorem rangeV_length {lo : Int} {n : Nat} : (rangeV lo n).length = n := by unfold rangeV; simp
theorem it_range1 {p pos : Pos} (hg : Gl X "range") (hm : X.mg "range" = none) (ha : PE X a (TI (gt X ξ) W f)) (hs : starEach [a] X.env = [(false, eval a X.env)] := by rfl) : PI X tg (.Call (.Name "range" p) [a] [] pos) (TIt (gt X ξ) W (iRange1 f)) := by
  refine (pi_range1 hg hm (a_cons ha a_nil (by rw [hs]; rfl)) hs).weak fun σ H Rr ⟨B, S, ρ, σI, st, R, L, h⟩ => ?_
  unfold iRng1
  refine ⟨B, S, ρ, σI, st, R, L, After.imp (P := fun x S1 ρ1 st1 H1 => ∃ i : Int, x = [.int i] ∧ small62 i = true ∧ Rr (Itr 0 i.toNat) H1) ?_ fun x S1 ρ1 st1 H1 s1 R1 ⟨i, e1, e2, q⟩ ws r1 => ?_⟩
  · have h2 := After.bind h
    unfold aCons aNil
    revert h2
    cases f σI st with
    | ok v st1 =>
      intro h2 S' ρ' H' s' R'
      have h3 := h2 S' ρ' H' s' R'
      dsimp only at h3
      split at h3
      · rename_i n
        split at h3
        · rename_i hz
          refine ⟨n, rfl, hz, ?_⟩
          have h4 := h3.here R'
          dsimp only at h4
          refine h4 (Itr 0 n.toNat) (fun _ => True) (YFn fun i => .int (0 + i)) (by rw [rangeV_length]; exact walk_range) (fun _ _ _ _ _ _ _ => True.intro) (fun i S2 ρ2 st2 H2 y H3 hi s2 R2 _ yy => ?_)
          rw [rangeV_length] at hi
          obtain ⟨e4, e5⟩ := yy
          rw [rangeV_get hi]
          exact yields_at R2 e4 (by rw [e5]; exact .int _)
        · exact h3.elim
      · exact h3.elim
    | er c st1 => exact fun h2 => h2
    | no => exact fun h2 => h2
  · subst e1
    obtain ⟨w, rfl, rw'⟩ := one_rvs r1
    cases rw'
    have := small62_to e2
    exact ⟨i, rfl, this.1, this.2, q⟩
theorem it_range2 {p pos : Pos} (hg : Gl X "range") (hm : X.mg "range" = none) (ha : PE X a (TI (gt X ξ) W fa)) (hb : PE X b (TI (gt X ξ) W fb)) (hs : starEach [a, b] X.env = [(false, eval a X.env), (false, eval b X.env)] := by rfl) (hs2 : starEach [b] X.env = [(false, eval b X.env)] := by rfl) : PI X tg (.Call (.Name "range" p) [a, b] [] pos) (TIt (gt X ξ) W (iRange2 fa fb)) := by
  refine (pi_range2 hg hm (pa_cons ha (pa_cons hb pa_nil (by rw [hs2]; rfl)) (by rw [hs, hs2])) hs hs2).weak fun σ H Rr ⟨B, S, ρ, σI, st, R, L, h⟩ => ?_
  refine ⟨B, S, ρ, σI, st, R, L, (After.bind h).imp fun x S1 ρ1 st1 H1 s1 R1 h1 w r1 => ?_⟩
  refine ⟨B, S1, ρ1, σI, st1, R1, L.mono s1.s s1.r, h1.bind.imp fun y S2 ρ2 st2 H2 s2 R2 h2 w2 r2 => ?_⟩
  split at h2
  · rename_i lo hi
    split at h2
    · rename_i hz
      have r1' := r1.mono s2.s s2.r
      cases r1'; cases r2
      have z1 := small62_to hz.1
      have z2 := small62_to hz.2
      refine ⟨lo, hi, rfl, ⟨z1.1, z1.2, z2.1, z2.2⟩, ?_⟩
      have h4 := h2.here R2
      dsimp only at h4
      refine h4 (Itr lo (hi - lo).toNat) (fun _ => True) (YFn fun i => .int (lo + i)) (by rw [rangeV_length]; exact walk_range) (fun _ _ _ _ _ _ _ => True.intro) (fun i S3 ρ3 st3 H3 y H4 hi3 s3 R3 _ yy => ?_)
      rw [rangeV_length] at hi3
      obtain ⟨e4, e5⟩ := yy
      rw [rangeV_get hi3]
      exact yields_at R3 e4 (by rw [e5]; exact .int _)
    · exact h2.elim
  · exact h2.elim
theorem enumV_length : ∀ (vs : List Val) (k : Nat), (enumV k vs).length = vs.length
  | [], _ => rfl
  | v :: vs, k => by simp [enumV, enumV_length vs (k + 1)]
theorem enumV_get : ∀ {vs : List Val} {k i : Nat} {v : Val}, vs[i]? = some v → (enumV k vs)[i]? = some (.tup [.int ((k + i : Nat) : Int), v])
  | [], _, _, _, h => by simp at h
  | x :: vs, k, 0, v, h => by simp at h; subst h; simp [enumV]
  | x :: vs, k, i + 1, v, h => by
    have := enumV_get (k := k + 1) (vs := vs) (i := i) (v := v) (by simpa using h)
    simp only [enumV, List.getElem?_cons_succ, this]
    congr 4
    omega
theorem zipV_length : ∀ (as bs : List Val), (zipV as bs).length = min as.length bs.length
  | [], bs => by simp [zipV]
  | a :: as, [] => by simp [zipV]
  | a :: as, b :: bs => by simp [zipV, zipV_length as bs]
theorem zipV_get : ∀ {as bs : List Val} {i : Nat} {a b : Val}, as[i]? = some a → bs[i]? = some b → (zipV as bs)[i]? = some (.tup [a, b])
  | [], _, _, _, _, h, _ => by simp at h
  | _ :: _, [], _, _, _, _, h => by simp at h
  | x :: as, y :: bs, 0, a, b, h, h' => by simp at h h'; subst h h'; simp [zipV]
  | x :: as, y :: bs, i + 1, a, b, h, h' => by simp [zipV]; exact zipV_get (by simpa using h) (by simpa using h')
/-- what a list's walk needs: the list, later -/
theorem list_later {G : Gt} {B S1 : Hp} {ρ1 : List Addr} {x : Val} {w : V} {st1 : Sto} {H1 : Hp} {vs : List Val} (R1 : HR G B S1 ρ1 st1 H1) (r1 : RV G S1 ρ1 x w) (ev : listOf st1 x = some vs) :
    ∃ p, w = .ref p ∧ (∃ ws, SqL G.K H1 p ws ∧ RVs G S1 ρ1 vs ws) ∧ ∀ S2 ρ2 st2 H2, Step B S1 ρ1 S2 ρ2 → HR G B S2 ρ2 st2 H2 → listOf st2 x = some vs → ∃ ws, SqL G.K H2 p ws ∧ RVs G S2 ρ2 vs ws := by
  obtain ⟨p, ws, rfl, hp, rr⟩ := listOf_get R1 r1 ev
  refine ⟨p, rfl, ⟨ws, hp, rr⟩, fun S2 ρ2 st2 H2 s2 R2 e2 => ?_⟩
  obtain ⟨p', ws', e3, hp', rr'⟩ := listOf_get R2 (r1.mono s2.s s2.r) e2
  cases e3
  exact ⟨ws', hp', rr'⟩
theorem it_enum {elts : List Expr} {kk : Nat} {p pos tpos : Pos} (hg : Gl X "enumerate") (hm : X.mg "enumerate" = none) (ha : PE X e (TI (gt X ξ) W f)) (hs : starEach [e] X.env = [(false, eval e X.env)] := by rfl) :
    PI X (.Tuple elts kk tpos) (.Call (.Name "enumerate" p) [e] [] pos) (TIt (gt X ξ) W (iEnum' f)) := by
  refine (pi_enum hg hm (pa_cons ha pa_nil (by rw [hs]; rfl)) hs).weak fun σ H Rr ⟨B, S, ρ, σI, st, R, L, h⟩ => ?_
  refine ⟨B, S, ρ, σI, st, R, L, (After.bind h).imp fun x S1 ρ1 st1 H1 s1 R1 h1 w r1 => ?_⟩
  split at h1
  · rename_i vs ev
    obtain ⟨p, rfl, ⟨ws, hp, rr⟩, later⟩ := list_later R1 r1 ev
    refine ⟨p, ws, rfl, hp, ?_⟩
    have h2 := h1.here R1
    dsimp only at h2
    refine h2 (Ite X.K p) (fun H => ∃ ws2 : List V, SqL X.K H p ws2 ∧ ws2.length = vs.length) (fun i H v H' => ∃ T x, v = V.ref T ∧ H T = none ∧ H' = upd H T (.tup [.int (i : Nat), x]) ∧ ∀ xs, SqL X.K H p xs → xs[i]? = some x) ⟨?_, ?_, ?_⟩ ?_ ?_
    · rintro i H hi ⟨ws2, q1, q2⟩
      rw [enumV_length] at hi
      exact ⟨ws2, ws2[i], q1, by simp [show i < ws2.length by omega]⟩
    · rintro H ⟨ws2, q1, q2⟩
      exact ⟨ws2, q1, by rw [enumV_length]; exact Nat.le_of_eq q2⟩
    · rintro i H y H' hi _ y'
      exact y'
    · intro S2 ρ2 st2 H2 s2 R2 e2
      obtain ⟨ws3, h5, h6⟩ := later S2 ρ2 st2 H2 s2 R2 e2
      exact ⟨ws3, h5, h6.length.symm⟩
    · rintro i S2 ρ2 st2 H2 y H3 hi s2 R2 e2 ⟨T, z, rfl, hT, e4, e5⟩
      obtain ⟨ws3, h5, h6⟩ := later S2 ρ2 st2 H2 s2 R2 e2
      obtain ⟨v2, e6, r6⟩ := h6.get' (e5 ws3 h5)
      rw [enumV_get e6]
      exact yields_pair R2 hT e4 (by rw [Nat.zero_add]; exact .int _) r6
  · exact h1.elim
theorem it_zip {e2 : Expr} {elts : List Expr} {kk : Nat} {p pos tpos : Pos} (hg : Gl X "zip") (hm : X.mg "zip" = none) (ha : PE X e (TI (gt X ξ) W fa)) (hb : PE X e2 (TI (gt X ξ) W fb))
    (hs : starEach [e, e2] X.env = (false, eval e X.env) :: starEach [e2] X.env := by rfl) (hpl : (backTo pos (starEach [e2] X.env)).any (·.1) = false := by rfl) (hs2 : starEach [e2] X.env = (false, eval e2 X.env) :: starEach [] X.env := by rfl) :
    PI X (.Tuple elts kk tpos) (.Call (.Name "zip" p) [e, e2] [] pos) (TIt (gt X ξ) W (iZip' fa fb)) := by
  refine (pi_zip hg hm (pa_cons ha (pa_cons hb pa_nil hs2) hs) hs hpl).weak fun σ H Rr ⟨B, S, ρ, σI, st, R, L, h⟩ => ?_
  refine ⟨B, S, ρ, σI, st, R, L, (After.bind h).imp fun x S1 ρ1 st1 H1 s1 R1 h1 w r1 => ?_⟩
  refine ⟨B, S1, ρ1, σI, st1, R1, L.mono s1.s s1.r, h1.bind.imp fun x2 S2 ρ2 st2 H2 s2 R2 h2 w2 r2 => ?_⟩
  split at h2
  · rename_i vs us ev eu
    obtain ⟨p, rfl, ⟨ws, hp, rr⟩, later⟩ := list_later R2 (r1.mono s2.s s2.r) ev
    obtain ⟨q, rfl, ⟨zs, hq, rr2⟩, later2⟩ := list_later R2 r2 eu
    refine ⟨p, q, ws, zs, rfl, hp, hq, ?_⟩
    have h3 := h2.here R2
    dsimp only at h3
    refine h3 (Itz X.K p q) (fun H => ∃ ws2 zs2 : List V, SqL X.K H p ws2 ∧ SqL X.K H q zs2 ∧ ws2.length = vs.length ∧ zs2.length = us.length)
      (fun i H v H' => ∃ T x y, v = V.ref T ∧ H T = none ∧ H' = upd H T (.tup [x, y]) ∧ (∀ xs, SqL X.K H p xs → xs[i]? = some x) ∧ ∀ ys, SqL X.K H q ys → ys[i]? = some y) ⟨?_, ?_, ?_⟩ ?_ ?_
    · rintro i H hi ⟨ws2, zs2, q1, q2, q3, q4⟩
      rw [zipV_length] at hi
      exact ⟨ws2, zs2, ws2[i]'(by omega), zs2[i]'(by omega), q1, q2, by simp [show i < ws2.length by omega], by simp [show i < zs2.length by omega]⟩
    · rintro H ⟨ws2, zs2, q1, q2, q3, q4⟩
      exact ⟨ws2, zs2, q1, q2, by rw [zipV_length]; omega⟩
    · rintro i H y H' hi _ y'
      exact y'
    · rintro S3 ρ3 st3 H3 s3 R3 ⟨e3, e4⟩
      obtain ⟨ws3, h5, h6⟩ := later S3 ρ3 st3 H3 s3 R3 e3
      obtain ⟨zs3, h7, h8⟩ := later2 S3 ρ3 st3 H3 s3 R3 e4
      exact ⟨ws3, zs3, h5, h7, h6.length.symm, h8.length.symm⟩
    · rintro i S3 ρ3 st3 H3 y H4 hi s3 R3 ⟨e3, e4⟩ ⟨T, z, z', rfl, hT, e6, e7, e8⟩
      obtain ⟨ws3, h5, h6⟩ := later S3 ρ3 st3 H3 s3 R3 e3
      obtain ⟨zs3, h7, h8⟩ := later2 S3 ρ3 st3 H3 s3 R3 e4
      obtain ⟨v2, e9, r9⟩ := h6.get' (e7 ws3 h5)
      obtain ⟨v3, e10, r10⟩ := h8.get' (e8 zs3 h7)
      rw [zipV_get e9 e10]
      exact yields_pair R3 hT e6 r9 r10
  · exact h2.elim
end
end
end Bd

namespace Bd
noncomputable section
open PySem L2
open PyProof.Rows (envOfC)
/-! ### defs -/
abbrev FI := List Val → Sto → Out Val
/-- what a def promises: as its meaning F says -/
def spI (G : Gt) (n : Nat) (F : FI) : Sp := fun vs H Q E => vs.length = n ∧ ∃ B S ρ st ds, HR G B S ρ st H ∧ RVs G S ρ ds vs ∧ match F ds st with
  | .ok v st' => ∀ S' ρ' H' w, Step B S ρ S' ρ' → HR G B S' ρ' st' H' → RV G S' ρ' v w → Q w H'
  | .er c st' => ∀ S' ρ' H' C, Step B S ρ S' ρ' → HR G B S' ρ' st' H' → G.mg c = some (.ref C) → E (.ref C) none H'
  | .no => False
/-- a body's meaning as a def's -/
def toF (n : Nat) (f : SI) : FI := fun ds st => match f (ds.map some ++ List.replicate (n - ds.length) none) st with
  | .nx _ st' => .ok .non st'
  | .rt v st' => .ok v st'
  | .er c _ st' => .er c st'
  | _ => .no
theorem start_rel {G : Gt} {S : Hp} {ρ : List Addr} {ds : List Val} {vs : List V} (r : RVs G S ρ ds vs) (N : List Str) : SlR G S ρ (ds.map some ++ List.replicate (N.length - ds.length) none) (L2.start N vs) := by
  have hl := r.length
  unfold L2.start
  refine ⟨by simp [hl], fun i v e => ?_⟩
  by_cases hi : i < ds.length
  · rw [List.getElem?_append_left (by simpa using hi)] at e
    rw [List.getElem?_append_left (by simp [← hl]; exact hi)]
    · rw [List.getElem?_map] at e ⊢
      cases e1 : ds[i]? with
      | none => rw [e1] at e; cases e
      | some d =>
        rw [e1] at e; cases e
        obtain ⟨w, e2, r2⟩ := r.get e1
        exact ⟨w, by rw [e2]; rfl, r2⟩
  · rw [List.getElem?_append_right (by simpa using hi), List.getElem?_replicate] at e
    split at e <;> cases e
/-- a def that may raise: what leaves it has no context -/
theorem okN {P : Program} {w : World} {K : PySem.W.Frag} {mg : Str → Option Value} {base : Heap} {x qual : Str} {st : Stmt} {f : Addr} {fd : FuncData} {N ps : List Str} {k : Nat} {sp : Sp} (D : Fun K x qual st f fd) (S : FnScope N ps (defScope st)) (len : ∀ vs H Q E, sp vs H Q E → vs.length = ps.length)
    (hb : ∀ (cdv : Value) (A : Around) (outer : List Env) (s : Shared) (H : Hp) (vs : List V) (Q : VK) (E : XK), Room k (A.deeper (envOfC qual (defScope st) s.heap.objs.size f cdv)) → sp vs H Q E →
      ∃ t, PSs (cxOf (L2N.CX P w) P w K mg base N qual (defScope st) f cdv A outer s H E) (defBody st) t ∧ t { nx := fun _ H' => Q .non H', rt := Q } (L2.start N vs) H) : FnOk P w K mg base (L2N.CX P w) (k + 1) f fd ps sp := by
  obtain ⟨_, _, _, _, _, _, cdv, _, _, rfl, z1, z2⟩ := D.ex
  exact fn_of z1 z2 S len fun A outer s H vs Q E hr q => hb cdv A outer s H vs Q E hr q
/-- THE RULE: a def by its body -/
theorem fn_ok {P : Program} {w : World} {K : PySem.W.Frag} {mg : Str → Option Value} {base : Heap} {x qual : Str} {st : Stmt} {f : Addr} {fd : FuncData} {N ps : List Str} {k : Nat} {n : Nat} {F : SI}
    (D : Fun K x qual st f fd) (S : FnScope N ps (defScope st)) (hn : ps.length = n)
    (body : ∀ (X : Cx) (W : WX) (cdv : Value) (A : Around) (outer : List Env) (s : Shared) (H : Hp) (E : XK), X = cxOf (L2N.CX P w) P w K mg base N qual (defScope st) f cdv A outer s H E → L2N.Takes X W → Room k X.A → PSs X (defBody st) (TS' ⟨K, mg, none⟩ W F)) :
    FnOk P w K mg base (L2N.CX P w) (k + 1) f fd ps (spI ⟨K, mg, none⟩ n (toF N.length F)) := by
  refine okN D S (fun vs H Q E h => h.1.trans hn.symm) (fun cdv A outer s H vs Q E hr h => ?_)
  refine ⟨_, body _ (fun cls d _ H' => E cls d H') cdv A outer s H E rfl (L2N.takes_of rfl rfl rfl rfl) hr, ?_⟩
  obtain ⟨_, B, S0, ρ, st0, ds, R, r, h⟩ := h
  refine ⟨B, S0, ρ, _, st0, R, start_rel r N, ?_⟩
  unfold toF at h
  revert h
  cases F (ds.map some ++ List.replicate (N.length - ds.length) none) st0 with
  | nx σ1 st1 => exact fun h S' ρ' H' σ' s R' _ => h S' ρ' H' _ s R' .non
  | rt v st1 => exact fun h S' ρ' H' w s R' r' => h S' ρ' H' w s R' r'
  | er c σ1 st1 => exact fun h S' ρ' H' σ' C s R' _ m => h S' ρ' H' C s R' m
  | bk _ _ => exact fun h => h.elim
  | ct _ _ => exact fun h => h.elim
  | no => exact fun h => h.elim
/-! ### calls: on the caller's store; by values alone -/
def eCallI (F : FI) (dvs : List Val) (r : AI) : EI := fun σ st => (r σ st).bind fun vs st1 => F (vs ++ dvs) st1
-- the value without places of the store
mutual
def rd (st : Sto) : Nat → Val → Option Val
  | 0, _ => none
  | n + 1, .tup vs => (rds st n vs).map .tup
  | n + 1, .lst vs => (rds st n vs).map .lst
  | _ + 1, .scr vs => none
  | n + 1, .ref i => match st[i]? with
    | some (.lst vs) => (rds st n vs).map .lst
    | some (.ins c fs) => (rdf st n fs).map (.ins c)
    | none => none
  | n + 1, .ins c fs => (rdf st n fs).map (.ins c)
  | _ + 1, v => some v
def rds (st : Sto) : Nat → List Val → Option (List Val)
  | _, [] => some []
  | 0, _ :: _ => none
  | n + 1, v :: vs => match rd st n v, rds st (n + 1) vs with
    | some d, some ds => some (d :: ds)
    | _, _ => none
def rdf (st : Sto) : Nat → List (Str × Val) → Option (List (Str × Val))
  | _, [] => some []
  | 0, _ :: _ => none
  | n + 1, (f, v) :: vs => match rd st n v, rdf st (n + 1) vs with
    | some d, some ds => some ((f, d) :: ds)
    | _, _ => none
end
-- no place of the store within
mutual
def flat : Val → Bool
  | .tup vs => flats vs
  | .lst vs => flats vs
  | .scr vs => flats vs
  | .ref _ => false
  | .ins _ fs => flatf fs
  | _ => true
def flats : List Val → Bool
  | [] => true
  | v :: vs => flat v && flats vs
def flatf : List (Str × Val) → Bool
  | [] => true
  | (_, v) :: vs => flat v && flatf vs
end
/-- what a def gives by values alone -/
def pure' (F : FI) (vs : List Val) : Out Val := match F vs [] with
  | .ok v st => match rd st 12 v with
    | some d => .ok d []
    | none => .no
  | .er c _ => .er c []
  | .no => .no
-- no list, no object within: numbers, truths, texts, None, tuples of such
mutual
def tight : Val → Bool
  | .tup vs => tights vs
  | .lst _ => false
  | .scr _ => false
  | .ref _ => false
  | .ins _ _ => false
  | .dct => false
  | _ => true
def tights : List Val → Bool
  | [] => true
  | v :: vs => tight v && tights vs
end
/-- a call by values alone; where places of the store are handed over they are read, and what comes back holds no list -/
def eCallP (F : FI) (dvs : List Val) (r : AI) : EI := fun σ st => (r σ st).bind fun vs st1 => if flats (vs ++ dvs) = true then (match pure' F (vs ++ dvs) with
  | .ok v _ => .ok v st1
  | .er c _ => .er c st1
  | .no => .no) else (match rds st1 12 (vs ++ dvs) with
  | some ds => match pure' F ds with
    | .ok v _ => if tight v = true then .ok v st1 else .no
    | .er c _ => .er c st1
    | .no => .no
  | none => .no)
section
variable {G : Gt} {S S' : Hp} {ρ ρ' : List Addr}
mutual
theorem RV.flat : ∀ {v : Val} {w : V}, RV G S ρ v w → flat v = true → RV G S ρ' v w
  | _, _, .non, _ => .non
  | _, _, .bl b, _ => .bl b
  | _, _, .int i, _ => .int i
  | _, _, .str x, _ => .str x
  | _, _, .tup e r, h => .tup e (RVs.flat r (by simpa only [Bd.flat] using h))
  | _, _, .lst e r, h => .lst e (RVs.flat r (by simpa only [Bd.flat] using h))
  | _, _, .scr e r, h => .scr e (RVs.flat r (by simpa only [Bd.flat] using h))
  | _, _, .dct e, _ => .dct e
  | _, _, .ref e, h => by simp only [Bd.flat] at h; cases h
  | _, _, .ty t, _ => .ty t
  | _, _, .ex t, _ => .ex t
  | _, _, .gl e r, _ => .gl e r
  | _, _, .ins e c r, h => .ins e c (RFs.flat r (by simpa only [Bd.flat] using h))
theorem RVs.flat : ∀ {vs : List Val} {ws : List V}, RVs G S ρ vs ws → flats vs = true → RVs G S ρ' vs ws
  | _, _, .nil, _ => .nil
  | _, _, .cons a b, h => by simp only [flats, Bool.and_eq_true] at h; exact .cons (RV.flat a h.1) (RVs.flat b h.2)
theorem RFs.flat : ∀ {vs : List (Str × Val)} {ws : List (Str × V)}, RFs G S ρ vs ws → flatf vs = true → RFs G S ρ' vs ws
  | _, _, .nil, _ => .nil
  | _, _, .cons a b, h => by simp only [flatf, Bool.and_eq_true] at h; exact .cons (RV.flat a h.1) (RFs.flat b h.2)
end
end
section
variable {G : Gt} {S S' : Hp} {ρ ρ' : List Addr} (hS : ∀ p xs, S p = some (.tup xs) → S' p = some (.tup xs))
include hS
mutual
theorem RV.tight : ∀ {v : Val} {w : V}, RV G S ρ v w → tight v = true → RV G S' ρ' v w
  | _, _, .non, _ => .non
  | _, _, .bl b, _ => .bl b
  | _, _, .int i, _ => .int i
  | _, _, .str x, _ => .str x
  | _, _, .tup e r, h => .tup (hS _ _ e) (RVs.tight r (by simpa only [Bd.tight] using h))
  | _, _, .lst e r, h => by simp only [Bd.tight] at h; cases h
  | _, _, .scr e r, h => by simp only [Bd.tight] at h; cases h
  | _, _, .dct e, h => by simp only [Bd.tight] at h; cases h
  | _, _, .ref e, h => by simp only [Bd.tight] at h; cases h
  | _, _, .ty t, _ => .ty t
  | _, _, .ex t, _ => .ex t
  | _, _, .gl e r, _ => .gl e r
  | _, _, .ins e c r, h => by simp only [Bd.tight] at h; cases h
theorem RVs.tight : ∀ {vs : List Val} {ws : List V}, RVs G S ρ vs ws → tights vs = true → RVs G S' ρ' vs ws
  | _, _, .nil, _ => .nil
  | _, _, .cons a b, h => by simp only [tights, Bool.and_eq_true] at h; exact .cons (RV.tight a h.1) (RVs.tight b h.2)
end
end
/-- all of the small store's objects fixed as they are -/
def fz (S : Hp) (ρ : List Addr) (H : Hp) : Hp := fun p => open Classical in if p ∈ ρ then H p else S p
section
variable {G : Gt} {B S : Hp} {ρ ρ1 : List Addr} {st : Sto} {H : Hp}
theorem fz_in {p : Addr} (h : p ∈ ρ) : fz S ρ H p = H p := by unfold fz; rw [if_pos h]
theorem fz_out {p : Addr} (h : p ∉ ρ) : fz S ρ H p = S p := by unfold fz; rw [if_neg h]
theorem HR.notin (R : HR G B S ρ st H) {p : Addr} {o : HO} (e : S p = some o) : p ∉ ρ := fun hm => by
  obtain ⟨i, hi, q⟩ := List.mem_iff_getElem.mp hm
  have := (R.fr i p (by rw [List.getElem?_eq_getElem hi, q])).1
  rw [e] at this; cases this
theorem rd_all (R : HR G B S ρ st H) : ∀ n, (∀ v d w, rd st n v = some d → RV G S ρ v w → RV G (fz S ρ H) ρ1 d w) ∧ (∀ vs ds ws, rds st n vs = some ds → RVs G S ρ vs ws → RVs G (fz S ρ H) ρ1 ds ws) ∧ (∀ vs ds ws, rdf st n vs = some ds → RFs G S ρ vs ws → RFs G (fz S ρ H) ρ1 ds ws) := by
  intro n
  induction n with
  | zero =>
    refine ⟨fun v d w e _ => by simp [rd] at e, fun vs ds ws e r => ?_, fun vs ds ws e r => ?_⟩
    · cases r with
      | nil => simp [rds] at e; subst e; exact .nil
      | cons _ _ => simp [rds] at e
    · cases r with
      | nil => simp [rdf] at e; subst e; exact .nil
      | cons _ _ => simp [rdf] at e
  | succ n ih =>
    obtain ⟨ih1, ih2, ih3⟩ := ih
    have old : ∀ {p o}, S p = some o → fz S ρ H p = some o := fun {p o} e => by rw [fz_out (R.notin e)]; exact e
    refine ⟨fun v d w e r => ?_, fun vs => ?_, fun vs => ?_⟩
    · cases r with
      | tup a b =>
        simp only [rd] at e
        obtain ⟨ds, e1, rfl⟩ := Option.map_eq_some_iff.mp e
        exact .tup (old a) (ih2 _ _ _ e1 b)
      | lst a b =>
        simp only [rd] at e
        obtain ⟨ds, e1, rfl⟩ := Option.map_eq_some_iff.mp e
        exact .lst (old a) (ih2 _ _ _ e1 b)
      | scr a b => simp [rd] at e
      | @ref ix p a =>
        have hp : p ∈ ρ := List.mem_of_getElem? a
        simp only [rd] at e
        split at e
        · rename_i us hu
          obtain ⟨ds, e1, rfl⟩ := Option.map_eq_some_iff.mp e
          obtain ⟨ws, h1, h2⟩ := R.get a hu
          exact .lst (by rw [fz_in hp]; exact h1) (ih2 _ _ _ e1 h2)
        · rename_i c fs hu
          obtain ⟨ds, e1, rfl⟩ := Option.map_eq_some_iff.mp e
          obtain ⟨C, dx, ws, h1, h2, h3⟩ := R.ob ix p _ a hu
          exact .ins (by rw [fz_in hp]; exact h1) h2 (ih3 _ _ _ e1 h3)
        · cases e
      | ins a b c =>
        simp only [rd] at e
        obtain ⟨ds, e1, rfl⟩ := Option.map_eq_some_iff.mp e
        exact .ins (old a) b (ih3 _ _ _ e1 c)
      | non => simp [rd] at e; subst e; exact .non
      | bl b => simp [rd] at e; subst e; exact .bl b
      | int i => simp [rd] at e; subst e; exact .int i
      | str i => simp [rd] at e; subst e; exact .str i
      | dct a => simp [rd] at e; subst e; exact .dct (old a)
      | ty t => simp [rd] at e; subst e; exact .ty t
      | ex t => simp [rd] at e; subst e; exact .ex t
      | gl a b => simp [rd] at e; subst e; exact .gl a b
    · induction vs with
      | nil => intro ds ws e r; cases r; simp [rds] at e; subst e; exact .nil
      | cons v vs ihv =>
        intro ds ws e r
        cases r with
        | cons r1 r2 =>
          simp only [rds] at e
          split at e
          · rename_i d ds' e1 e2
            cases e
            exact .cons (ih1 _ _ _ e1 r1) (ihv _ _ e2 r2)
          · cases e
    · induction vs with
      | nil => intro ds ws e r; cases r; simp [rdf] at e; subst e; exact .nil
      | cons v vs ihv =>
        intro ds ws e r
        obtain ⟨f, v⟩ := v
        cases r with
        | cons r1 r2 =>
          simp only [rdf] at e
          split at e
          · rename_i d ds' e1 e2
            cases e
            exact .cons (ih1 _ _ _ e1 r1) (ihv _ _ e2 r2)
          · cases e
theorem HR.inS (R : HR G B S ρ st H) {i : Nat} {p : Addr} (h : ρ[i]? = some p) : ∃ o, H p = some o := by
  have hi : i < st.length := by rw [← R.len]; exact (List.getElem?_eq_some_iff.mp h).1
  have q := R.ob i p _ h (List.getElem?_eq_getElem hi)
  revert q
  cases st[i] with
  | lst vs => rintro ⟨ws, a, _⟩; exact ⟨_, a⟩
  | ins c fs => rintro ⟨_, _, ws, a, _⟩; exact ⟨_, a⟩
/-- back from a call by values: the callee's things are fixed -/
theorem back_pure {B1 S1 : Hp} {ρ1 : List Addr} {st1 : Sto} {H1 S' : Hp} {ρ' : List Addr} {st' : Sto} {H' : Hp} (R1 : HR G B1 S1 ρ1 st1 H1) (s : Step H1 S1 [] S' ρ') (R' : HR G H1 S' ρ' st' H') :
    Step B1 S1 ρ1 (fz S' ρ' H') ρ1 ∧ HR G B1 (fz S' ρ' H') ρ1 st1 H' := by
  have nin : ∀ p, (H1 p ≠ none) → p ∉ ρ' := fun p hp hm => by
    obtain ⟨i, hi, q⟩ := List.mem_iff_getElem.mp hm
    exact hp (R'.fr i p (by rw [List.getElem?_eq_getElem hi, q])).2
  have sS : Same S1 (fz S' ρ' H') := fun p o e => by
    rw [fz_out (nin p (by rw [R1.s _ _ e]; simp))]
    exact s.s _ _ e
  refine ⟨⟨sS, List.prefix_refl _, fun p h => ?_⟩, ⟨R1.b.trans R'.b, fun p o e => ?_, R1.nd, R1.len, fun i p hp => ⟨?_, (R1.fr i p hp).2⟩, fun i p ob h1 h2 => (R1.ob i p ob h1 h2).mono sS (List.prefix_refl _) (fun o e => R'.b _ _ e)⟩⟩
  · by_cases hm : p ∈ ρ'
    · obtain ⟨i, hi, q⟩ := List.mem_iff_getElem.mp hm
      exact .inr (R1.b.free (R'.fr i p (by rw [List.getElem?_eq_getElem hi, q])).2)
    · rw [fz_out hm] at h
      exact (s.n p h).imp id fun z => R1.b.free z
  · by_cases hm : p ∈ ρ'
    · rw [fz_in hm] at e; exact e
    · rw [fz_out hm] at e; exact R'.s _ _ e
  · obtain ⟨o, ho⟩ := R1.inS hp
    rw [fz_out (nin p (by rw [ho]; simp))]
    cases q : S' p with
    | none => rfl
    | some u =>
      rcases s.n p (by rw [q]; simp) with z | z
      · exact absurd (R1.fr i p hp).1 z
      · rw [ho] at z; cases z
/-- all fixed things but the store's own -/
def lessH (S : Hp) (ρ : List Addr) : Hp := fun p => open Classical in if p ∈ ρ then none else S p
theorem less_in {S : Hp} {p : Addr} (h : p ∈ ρ) : lessH S ρ p = none := by unfold lessH; rw [if_pos h]
theorem less_out {S : Hp} {p : Addr} (h : p ∉ ρ) : lessH S ρ p = S p := by unfold lessH; rw [if_neg h]
theorem HR.frozen (R : HR G B S ρ st H) : HR G H (fz S ρ H) [] [] H := by
  refine ⟨Same.refl _, fun p o e => ?_, by simp, rfl, fun i p h => by simp at h, fun i p o h => by simp at h⟩
  by_cases hm : p ∈ ρ
  · rw [fz_in hm] at e; exact e
  · rw [fz_out hm] at e; exact R.s _ _ e
/-- back from a call that read the store: what is without lists stays known -/
theorem back_read {B1 S1 : Hp} {ρ1 : List Addr} {st1 : Sto} {H1 S' : Hp} {ρ' : List Addr} {st' : Sto} {H' : Hp} (R1 : HR G B1 S1 ρ1 st1 H1) (s : Step H1 (fz S1 ρ1 H1) [] S' ρ') (R' : HR G H1 S' ρ' st' H') :
    Step B1 S1 ρ1 (lessH (fz S' ρ' H') ρ1) ρ1 ∧ HR G B1 (lessH (fz S' ρ' H') ρ1) ρ1 st1 H' ∧ ∀ p xs, fz S' ρ' H' p = some (.tup xs) → lessH (fz S' ρ' H') ρ1 p = some (.tup xs) := by
  have nin : ∀ p, (H1 p ≠ none) → p ∉ ρ' := fun p hp hm => by
    obtain ⟨i, hi, q⟩ := List.mem_iff_getElem.mp hm
    exact hp (R'.fr i p (by rw [List.getElem?_eq_getElem hi, q])).2
  have sub : ∀ p o, fz S' ρ' H' p = some o → H' p = some o := fun p o e => by
    by_cases hm : p ∈ ρ'
    · rw [fz_in hm] at e; exact e
    · rw [fz_out hm] at e; exact R'.s _ _ e
  have sS : Same S1 (lessH (fz S' ρ' H') ρ1) := fun p o e => by
    have h1 := R1.notin e
    rw [less_out h1, fz_out (nin p (by rw [R1.s _ _ e]; simp))]
    exact s.s _ _ (by rw [fz_out h1]; exact e)
  refine ⟨⟨sS, List.prefix_refl _, fun p h => ?_⟩, ⟨R1.b.trans R'.b, fun p o e => ?_, R1.nd, R1.len, fun i p hp => ⟨less_in (List.mem_of_getElem? hp), (R1.fr i p hp).2⟩, fun i p ob h1 h2 => (R1.ob i p ob h1 h2).mono sS (List.prefix_refl _) (fun o e => R'.b _ _ e)⟩, fun p xs e => ?_⟩
  · by_cases h1 : p ∈ ρ1
    · rw [less_in h1] at h; exact absurd rfl h
    · rw [less_out h1] at h
      by_cases hm : p ∈ ρ'
      · obtain ⟨i, hi, q⟩ := List.mem_iff_getElem.mp hm
        exact .inr (R1.b.free (R'.fr i p (by rw [List.getElem?_eq_getElem hi, q])).2)
      · rw [fz_out hm] at h
        rcases s.n p h with z | z
        · rw [fz_out h1] at z; exact .inl z
        · exact .inr (R1.b.free z)
  · by_cases h1 : p ∈ ρ1
    · rw [less_in h1] at e; cases e
    · rw [less_out h1] at e; exact sub _ _ e
  · by_cases h1 : p ∈ ρ1
    · obtain ⟨i, hi, q⟩ := List.mem_iff_getElem.mp h1
      have hp : ρ1[i]? = some p := by rw [List.getElem?_eq_getElem hi, q]
      have e2 := sub _ _ e
      have hi2 : i < st1.length := by rw [← R1.len]; exact hi
      have o := R1.ob i p _ hp (List.getElem?_eq_getElem hi2)
      revert o
      cases st1[i] with
      | lst vs => rintro ⟨ws, a, _⟩; rw [R'.b _ _ a] at e2; cases e2
      | ins c fs => rintro ⟨_, _, ws, a, _⟩; rw [R'.b _ _ a] at e2; cases e2
    · rw [less_out h1]; exact e
end
section
variable {X : Cx} {ξ : Exo} {W : WX} {e : Expr} {es : List Expr} {r : AI} {F : FI} {k n : Nat} {f : Addr} {fd : FuncData} {ps : List Str} {dvs : List V} {dV : List Val} {ds : List Value} {x : Str} {p pos : Pos}
/-- the defaults' values -/
def DefV (dV : List Val) (dvs : List V) : Prop := ∀ G S ρ, RVs G S ρ dV dvs
theorem i_callI (D : FnOk X.prog X.w X.K X.mg X.base (L2N.CX X.prog X.w) k f fd ps (spI (gt X ξ) n F)) (tk : L2N.Takes X W) (hr : Room k X.A) (hg : Gl X x) (hm : X.mg x = some (.ref f)) (hk : PySem.W.keepIn X.K (.ref f) = true) (hb : Binds X.K fd ps ds) (hd : Vals dvs ds) (hdv : DefV dV dvs) (hnn : ps.length = n)
    (hlen : es.length + 1 + dV.length = n) (ha : PA X (e :: es) (TL (gt X ξ) W r)) (hal : ∀ σ st vs st', r σ st = .ok vs st' → vs.length = es.length + 1) (hdb : (x == ("__debug__" : Str)) = false := by decide) (he : starEach (e :: es) X.env = (false, eval e X.env) :: starEach es X.env := by rfl) (hpl : (backTo pos (starEach es X.env)).any (·.1) = false := by rfl) :
    PE X (.Call (.Name x p) (e :: es) [] pos) (TI (gt X ξ) W (eCallI F dV r)) := by
  have passes : ∀ σ, PassesAt (L2N.CX X.prog X.w) X σ (fun cls d H => W cls d σ H) := fun σ pins H s e s' I c => tk _ _ (L2N.XE.of_call (W := W) I (fun cls d H' h => h) c)
  refine (pe_callSD (E := fun σ cls d H => W cls d σ H) D hr hg hm hk hb hd passes ha hdb he hpl).weak fun σ H Q ⟨B, S, ρ, σI, st, R, L, h⟩ => ?_
  refine ⟨B, S, ρ, σI, st, R, L, ?_⟩
  unfold eCallI at h
  have h2 := After.bind h
  revert h2
  cases e1 : r σI st with
  | ok vs st1 =>
    intro h2 S1 ρ1 H1 s1 R1 ws r1
    have h3 := h2 S1 ρ1 H1 s1 R1
    dsimp only at h3
    refine ⟨?_, B, S1, ρ1, st1, vs ++ dV, R1, r1.append (hdv _ _ _), ?_⟩
    · rw [List.length_append, ← r1.length, ← (hdv (gt X ξ) S1 ρ1).length, hal _ _ _ _ e1, hlen]
    · revert h3
      cases F (vs ++ dV) st1 with
      | ok v st2 => exact fun h3 S' ρ' H' w s R' r' => h3 S' ρ' H' s R' w r'
      | er c st2 => exact fun h3 S' ρ' H' C s R' m => h3 S' ρ' H' C s R' m
      | no => exact fun h3 => h3
  | er c st1 => exact fun h2 => h2
  | no => exact fun h2 => h2
/-- what a call by values asks -/
theorem callP_imp {m : Nat} (hdv : DefV dV dvs) (hlen : m + dV.length = n) (hal : ∀ σ st vs st', r σ st = .ok vs st' → vs.length = m) {σ : St} {H : Hp} {Q : VK} (h : TI (gt X ξ) W (eCallP F dV r) σ H Q) : tCallSD (spI (gt X ξ) n F) dvs (fun σ cls d H => W cls d σ H) (TL (gt X ξ) W r) σ H Q := by
  obtain ⟨B, S, ρ, σI, st, R, L, h⟩ := h
  refine ⟨B, S, ρ, σI, st, R, L, ?_⟩
  unfold eCallP at h
  have h2 := After.bind h
  revert h2
  cases e1 : r σI st with
  | ok vs st1 =>
    intro h2 S1 ρ1 H1 s1 R1 ws r1
    have h3 := h2 S1 ρ1 H1 s1 R1
    dsimp only at h3
    split at h3
    · rename_i hf
      have R0 : HR (gt X ξ) H1 S1 [] [] H1 := ⟨Same.refl _, R1.s, by simp, rfl, fun i p h => by simp at h, fun i p o h => by simp at h⟩
      refine ⟨?_, H1, S1, [], [], vs ++ dV, R0, (r1.append (hdv _ _ _)).flat hf, ?_⟩
      · rw [List.length_append, ← r1.length, ← (hdv (gt X ξ) S1 ρ1).length, hal _ _ _ _ e1, hlen]
      · unfold pure' at h3
        revert h3
        cases F (vs ++ dV) [] with
        | ok v st2 =>
          intro h3 S' ρ' H' w s R' r'
          dsimp only at h3
          cases e2 : rd st2 12 v with
          | none => rw [e2] at h3; exact h3.elim
          | some d =>
            rw [e2] at h3
            obtain ⟨b1, b2⟩ := back_pure R1 s R'
            exact h3 _ _ _ b1 b2 w ((rd_all R' 12).1 v d w e2 r')
        | er c st2 =>
          intro h3 S' ρ' H' C s R' m
          obtain ⟨b1, b2⟩ := back_pure R1 s R'
          exact h3 _ _ _ C b1 b2 m
        | no => exact fun h3 => h3.elim
    · cases e5 : rds st1 12 (vs ++ dV) with
      | none => rw [e5] at h3; exact h3.elim
      | some us =>
        rw [e5] at h3
        dsimp only at h3
        have r5 := (rd_all (ρ1 := []) R1 12).2.1 _ _ _ e5 (r1.append (hdv _ _ _))
        refine ⟨?_, H1, fz S1 ρ1 H1, [], [], us, R1.frozen, r5, ?_⟩
        · rw [List.length_append, ← r1.length, ← (hdv (gt X ξ) S1 ρ1).length, hal _ _ _ _ e1, hlen]
        · unfold pure' at h3
          revert h3
          cases F us [] with
          | ok v st2 =>
            intro h3 S' ρ' H' w s R' r'
            dsimp only at h3
            cases e2 : rd st2 12 v with
            | none => rw [e2] at h3; exact h3.elim
            | some d =>
              rw [e2] at h3
              dsimp only at h3
              split at h3
              · rename_i ht
                obtain ⟨b1, b2, b3⟩ := back_read R1 s R'
                exact h3 _ _ _ b1 b2 w (RV.tight b3 ((rd_all (ρ1 := ρ1) R' 12).1 v d w e2 r') ht)
              · exact h3.elim
          | er c st2 =>
            intro h3 S' ρ' H' C s R' m
            obtain ⟨b1, b2, _⟩ := back_read R1 s R'
            exact h3 _ _ _ C b1 b2 m
          | no => exact fun h3 => h3.elim
  | er c st1 => exact fun h2 => h2
  | no => exact fun h2 => h2
theorem i_callP (D : FnOk X.prog X.w X.K X.mg X.base (L2N.CX X.prog X.w) k f fd ps (spI (gt X ξ) n F)) (tk : L2N.Takes X W) (hr : Room k X.A) (hg : Gl X x) (hm : X.mg x = some (.ref f)) (hk : PySem.W.keepIn X.K (.ref f) = true) (hb : Binds X.K fd ps ds) (hd : Vals dvs ds) (hdv : DefV dV dvs)
    (hlen : es.length + 1 + dV.length = n) (ha : PA X (e :: es) (TL (gt X ξ) W r)) (hal : ∀ σ st vs st', r σ st = .ok vs st' → vs.length = es.length + 1) (hdb : (x == ("__debug__" : Str)) = false := by decide) (he : starEach (e :: es) X.env = (false, eval e X.env) :: starEach es X.env := by rfl) (hpl : (backTo pos (starEach es X.env)).any (·.1) = false := by rfl) :
    PE X (.Call (.Name x p) (e :: es) [] pos) (TI (gt X ξ) W (eCallP F dV r)) := by
  have passes : ∀ σ, PassesAt (L2N.CX X.prog X.w) X σ (fun cls d H => W cls d σ H) := fun σ pins H s e s' I c => tk _ _ (L2N.XE.of_call (W := W) I (fun cls d H' h => h) c)
  exact (pe_callSD (E := fun σ cls d H => W cls d σ H) D hr hg hm hk hb hd passes ha hdb he hpl).weak fun σ H Q h => callP_imp hdv hlen hal h
/-- the number of arguments -/
def AI.len (r : AI) (n : Nat) : Prop := ∀ σ st vs st', r σ st = .ok vs st' → vs.length = n
theorem len_nil : AI.len aNil 0 := fun σ st vs st' h => by cases h; rfl
theorem len_cons {f : EI} {r : AI} {n : Nat} (h : AI.len r n) : AI.len (aCons f r) (n + 1) := fun σ st vs st' e => by
  unfold aCons at e
  cases e1 : f σ st with
  | ok a st1 =>
    rw [e1] at e
    simp only [Out.bind] at e
    cases e2 : r σ st1 with
    | ok b st2 =>
      rw [e2] at e
      cases e
      rw [List.length_cons, h _ _ _ _ e2]
    | er c st2 => rw [e2] at e; cases e
    | no => rw [e2] at e; cases e
  | er c st1 => rw [e1] at e; cases e
  | no => rw [e1] at e; cases e
/-! ### raise -/
theorem s_raise {C : Addr} {bmB : List Value} {B newId initId : String} {m : Str} {j : Nat} {p2 rpos : Pos} (hc : X.calm = true) (tk : L2N.Takes X W) (Fc : ExcBaseFacts B newId initId bmB) (q : PySem.W.excIn X.K C bmB newId = true) (gC : X.mg x = some (.ref C)) (kC : PySem.W.keepIn X.K (.ref C) = true) (rs : Raises X (.ref C)) (hg : Gl X x)
    (hdb : (x == ("__debug__" : Str)) = false := by decide) : PS X (.Raise (some (.Call (.Name x p) [.Constant (.str m) j p2] [] pos)) none rpos) (TS' (gt X ξ) W (sRaise x)) := by
  refine (L2N.ps_raise hc tk (L2N.pmk_own Fc q gC kC rs hg hdb)).weak fun D σ H ⟨B, S, ρ, σI, st, R, L, h⟩ => ?_
  exact h S ρ H σ C Step.refl R L gC
end
/-! ### comprehensions -/
def noer {α : Type} : Out α → Out α
  | .er _ _ => .no
  | x => x
theorem noer_after {α : Type} {G : Gt} {W W' : WX} {B S : Hp} {ρ : List Addr} {σ σ' : St} {o : Out α} {P : α → Hp → List Addr → Sto → Hp → Prop} (h : After G W B S ρ σ (noer o) P) : After G W' B S ρ σ' o P := by
  cases o with
  | ok a st => exact h
  | er c st => exact h.elim
  | no => exact h
def wipeI (σ : Sg) : List Nat → Sg
  | [] => σ
  | v :: vs => (wipeI σ vs).set v none
def bYes : BI := fun _ st => .ok true st
def compL (t : Tg) (own : List Nat) (c : BI) (f : EI) (still : Sto → Prop) (σ : Sg) : List Val → List Val → Sto → Out (List Val)
  | [], acc, st => .ok acc st
  | v :: vs, acc, st => match Tg.st st t v (wipeI σ own) with
    | none => .no
    | some σ1 => (noer (c σ1 st)).bind fun b st2 => if b = true then (noer (f σ1 st2)).bind fun y st3 => (open Classical in if still st3 then compL t own c f still σ vs (acc ++ [y]) st3 else .no)
      else (open Classical in if still st2 then compL t own c f still σ vs acc st2 else .no)
def eComp (it : II) (t : Tg) (own : List Nat) (c : BI) (f : EI) : EI := fun σ st => (it σ st).bind fun x st1 => open Classical in if x.2 st1 ∧ small x.1.length = true then (compL t own c f x.2 σ x.1 [] st1).bind fun acc st2 => .ok (.lst acc) st2 else .no
theorem wipe_rel {G : Gt} {S : Hp} {ρ : List Addr} {σI : Sg} {σ : St} (L : SlR G S ρ σI σ) : ∀ vs : List Nat, SlR G S ρ (wipeI σI vs) (wipe σ vs)
  | [] => L
  | v :: vs => (wipe_rel L vs).setN v
theorem wipe_but {σ σ' : St} {vs us : List Nat} (h : But us σ σ') (hs : ∀ i ∈ us, i ∈ vs) : wipe σ' vs = wipe σ vs := by
  have key : ∀ (vs : List Nat) (σ : St) (i : Nat), (wipe σ vs)[i]? = if i ∈ vs ∧ i < σ.length then some none else σ[i]? := by
    intro vs
    induction vs with
    | nil => intro σ i; simp [wipe]
    | cons v vs ih =>
      intro σ i
      unfold wipe
      by_cases hi : v = i
      · subst hi
        by_cases hl : v < σ.length
        · rw [List.getElem?_set_self (by rw [wipe_length]; exact hl), if_pos ⟨by simp, hl⟩]
        · rw [List.getElem?_eq_none (by rw [List.length_set, wipe_length]; omega), if_neg (fun z => hl z.2), List.getElem?_eq_none (by omega)]
      · rw [List.getElem?_set_ne hi, ih]
        have : (i ∈ v :: vs) ↔ i ∈ vs := by simp [Ne.symm hi]
        simp only [this]
  apply List.ext_getElem?
  intro i
  rw [key, key, h.1]
  by_cases hm : i ∈ vs
  · by_cases hl : i < σ.length
    · rw [if_pos ⟨hm, hl⟩, if_pos ⟨hm, hl⟩]
    · rw [if_neg (fun z => hl z.2), if_neg (fun z => hl z.2), List.getElem?_eq_none (show σ'.length ≤ i by rw [h.1]; omega), List.getElem?_eq_none (show σ.length ≤ i by omega)]
  · rw [if_neg (fun z => hm z.1), if_neg (fun z => hm z.1)]
    exact h.2 i fun z => hm (hs i z)
theorem wipe_wipe (σ : St) (vs : List Nat) : wipe (wipe σ vs) vs = wipe σ vs := by
  have : But vs σ (wipe σ vs) := ⟨wipe_length _ _, fun i hi => by
    induction vs with
    | nil => rfl
    | cons v vs ih =>
      unfold wipe
      rw [List.getElem?_set_ne (by rintro rfl; simp at hi)]
      exact ih (fun z => hi (by simp [z]))⟩
  exact wipe_but this fun _ h => h
section
variable {X : Cx} {ξ : Exo} {W : WX} {elt tg iter : Expr} {ifs : List Expr} {scope : Scope} {own : List (Str × Nat)} {pos : Pos} {it : II} {t : Tg} {c : BI} {f : EI}
abbrev W0 : WX := fun _ _ _ _ => False
theorem HR.base {G : Gt} {B B' S : Hp} {ρ : List Addr} {st : Sto} {H : Hp} (h : Same B B') (R : HR G B' S ρ st H) : HR G B S ρ st H :=
  ⟨h.trans R.b, R.s, R.nd, R.len, fun i p hp => ⟨(R.fr i p hp).1, h.free (R.fr i p hp).2⟩, R.ob⟩
/-- a thing that is neither fixed nor the store's is changed -/
theorem HR.aside {G : Gt} {B S : Hp} {ρ : List Addr} {st : Sto} {H : Hp} (R : HR G B S ρ st H) {D : Addr} {o : HO} (h1 : S D = none) (h2 : B D = none) (h3 : D ∉ ρ) : HR G B S ρ st (upd H D o) := by
  refine ⟨fun p u e => by rw [upd_ne (ne_of_none e h2)]; exact R.b _ _ e, fun p u e => by rw [upd_ne (ne_of_none e h1)]; exact R.s _ _ e, R.nd, R.len, R.fr, fun i p ob a b => (R.ob i p ob a b).mono (Same.refl _) (List.prefix_refl _) fun u e => ?_⟩
  rw [upd_ne (by rintro rfl; exact h3 (List.mem_of_getElem? a))]; exact e
theorem After.shift {α : Type} {G : Gt} {B Sa Sb : Hp} {ρa ρb : List Addr} {σ : St} {o : Out α} {P : α → Hp → List Addr → Sto → Hp → Prop} (q : After G W B Sa ρa σ o P) (z : Step B Sa ρa Sb ρb) : After G W B Sb ρb σ o P := by
  cases o with
  | ok a st => exact fun S' ρ' H' s r => q S' ρ' H' (z.trans s) r
  | er c st => exact fun S' ρ' H' C s r => q S' ρ' H' C (z.trans s) r
  | no => exact q
theorem lc_imp (hi : ∀ i ∈ Tg.slots t, i ∈ own.map (·.2)) {tt : TT} {te : TE} (ht : ∀ σ H Q, TB (gt X ξ) W0 c σ H Q → tt σ H Q) (he : ∀ σ H Q, TI (gt X ξ) W0 f σ H Q → te σ H Q) {σ : St} {H : Hp} {Q : VK}
    (h : TI (gt X ξ) W (eComp it t (own.map (·.2)) c f) σ H Q) : tLc (TIt (gt X ξ) W it) (Tg.g X.K t) tt te (own.map (·.2)) σ H Q := by
  obtain ⟨B, S, ρ, σI, st, R, L, h⟩ := h
  refine ⟨B, S, ρ, σI, st, R, L, (After.bind h).imp fun x S1 ρ1 st1 H1 s1 R1 h1 J Gd Y w hG hY D hD => ?_⟩
  obtain ⟨items, still⟩ := x
  dsimp only at h1 w hG hY
  by_cases hst : still st1 ∧ small items.length = true
  · rw [if_pos hst] at h1
    obtain ⟨hst, hsm⟩ := hst
    have L1 := L.mono s1.s s1.r
    have hDS : S1 D = none := R1.s.free hD
    have hDB : B D = none := R1.b.free hD
    have hDr : D ∉ ρ1 := fun hm => by
      obtain ⟨i, hi, q⟩ := List.mem_iff_getElem.mp hm
      obtain ⟨o, ho⟩ := R1.inS (show ρ1[i]? = some D by rw [List.getElem?_eq_getElem hi, q])
      rw [hD] at ho; cases ho
    refine lc_it w (fun i H => ∃ S2 ρ2 st2 acc accV, Step B S1 ρ1 S2 ρ2 ∧ HR (gt X ξ) B S2 ρ2 st2 H ∧ still st2 ∧ H D = some (.lst accV) ∧ RVs (gt X ξ) S2 ρ2 acc accV ∧ acc.length ≤ i ∧ S2 D = none ∧ D ∉ ρ2 ∧
      After (gt X ξ) W B S2 ρ2 σ ((compL t (own.map (·.2)) c f still σI (items.drop i) acc st2).bind fun acc st2 => .ok (.lst acc) st2) fun v S' ρ' _ H' => ∀ w, RV (gt X ξ) S' ρ' v w → Q w H') ?_ ?_ ?_ ?_
    · exact ⟨S1, ρ1, st1, [], [], Step.refl, R1.aside hDS hDB hDr, hst, upd_same, .nil, Nat.zero_le _, hDS, hDr, by simpa using h1⟩
    · rintro i H hi ⟨S2, ρ2, st2, acc, accV, s2, R2, h2, _⟩
      exact hG S2 ρ2 st2 H s2 R2 h2
    · rintro i x H2 H3 hi3 ⟨S2, ρ2, st2, acc, accV, s2, R2, h2, hd2, ra, hl, d1, d2, h3⟩ y
      obtain ⟨S3, v, s3, R3, keep, ev, rv⟩ := hY i S2 ρ2 st2 H2 x H3 hi3 s2 R2 h2 y
      obtain ⟨d3, hd3⟩ := keep D _ d1 hd2
      have ed : items.drop i = v :: items.drop (i + 1) := by
        have e2 : items[i]? = some v := ev
        rw [List.getElem?_eq_getElem hi3] at e2
        rw [List.drop_eq_getElem_cons hi3, Option.some.inj e2]
      rw [ed] at h3
      unfold compL at h3
      split at h3
      · exact h3.elim
      · rename_i σ1 e1
        have Lw : SlR (gt X ξ) S3 ρ2 (wipeI σI (own.map (·.2))) (wipe σ (own.map (·.2))) := wipe_rel ((L1.mono s2.s s2.r).mono s3.s s3.r) _
        have h4 := h3.shift s3
        refine Tg.g_of R3 t Lw rv e1 fun σ' L4 b4 => ⟨?_, ?_⟩
        · rw [wipe_but b4 hi, wipe_wipe]
        · -- the base with the list that grows
          have sB : Same B (upd B D (.lst accV)) := fun p u e => by rw [upd_ne (ne_of_none e hDB)]; exact e
          have RB : HR (gt X ξ) (upd B D (.lst accV)) S3 ρ2 st2 H3 := ⟨fun p u e => by
              by_cases hp : p = D
              · subst hp; rw [upd_same] at e; cases e; exact hd3
              · rw [upd_ne hp] at e; exact R3.b _ _ e, R3.s, R3.nd, R3.len, fun j p hp => ⟨(R3.fr j p hp).1, by rw [upd_ne (by rintro rfl; exact d2 (List.mem_of_getElem? hp))]; exact (R3.fr j p hp).2⟩, R3.ob⟩
          have baseN : ∀ p, upd B D (.lst accV) p = none → B p = none := fun p q => by
            by_cases hp : p = D
            · subst hp; exact hDB
            · rw [upd_ne hp] at q; exact q
          have far : ∀ {S4 : Hp} {ρ4 : List Addr} {st4 : Sto} {H4 : Hp}, Step (upd B D (.lst accV)) S3 ρ2 S4 ρ4 → HR (gt X ξ) (upd B D (.lst accV)) S4 ρ4 st4 H4 → H4 D = some (.lst accV) ∧ S4 D = none ∧ D ∉ ρ4 := by
            intro S4 ρ4 st4 H4 s4 R4
            refine ⟨R4.b _ _ upd_same, ?_, fun hm => ?_⟩
            · cases q : S4 D with
              | none => rfl
              | some u =>
                rcases s4.n D (by rw [q]; simp) with z | z
                · exact absurd d3 z
                · rw [upd_same] at z; cases z
            · obtain ⟨j, hj, q⟩ := List.mem_iff_getElem.mp hm
              have := (R4.fr j D (by rw [List.getElem?_eq_getElem hj, q])).2
              rw [upd_same] at this; cases this
          -- the piece of h4 that is the test's
          revert h4
          cases ec : c σ1 st2 with
          | no => exact fun h4 => h4.elim
          | er cc st4 => exact fun h4 => h4.elim
          | ok bv st4 =>
            intro h4
            refine ht _ _ _ ⟨_, S3, ρ2, σ1, st2, RB, L4, ?_⟩
            rw [ec]
            intro S4 ρ4 H4 s4 R4
            obtain ⟨f1, f2, f3⟩ := far s4 R4
            have s4' : Step B S3 ρ2 S4 ρ4 := s4.base baseN
            have h4 : After (gt X ξ) W B S3 ρ2 σ ((if bv = true then (noer (f σ1 st4)).bind fun y st3 => (open Classical in if still st3 then compL t (own.map (·.2)) c f still σI (items.drop (i + 1)) (acc ++ [y]) st3 else .no)
              else (open Classical in if still st4 then compL t (own.map (·.2)) c f still σI (items.drop (i + 1)) acc st4 else .no)).bind fun acc st2 => .ok (Val.lst acc) st2) (fun v S' ρ' _ H' => ∀ w, RV (gt X ξ) S' ρ' v w → Q w H') := h4
            cases bv with
            | false =>
              rw [if_neg Bool.false_ne_true] at h4 ⊢
              by_cases h6 : still st4
              · rw [if_pos h6] at h4
                exact ⟨S4, ρ4, st4, acc, accV, s2.trans (s3.trans s4'), R4.base sB, h6, f1, (ra.mono s3.s s3.r).mono s4.s s4.r, by omega, f2, f3, h4.shift s4'⟩
              · rw [if_neg h6] at h4; exact h4.elim
            | true =>
              rw [if_pos rfl] at h4 ⊢
              revert h4
              cases ef : f σ1 st4 with
              | no => exact fun h4 => h4.elim
              | er cc st5 => exact fun h4 => h4.elim
              | ok yv st5 =>
                intro h4
                refine he _ _ _ ⟨_, S4, ρ4, σ1, st4, R4, L4.mono s4.s s4.r, ?_⟩
                rw [ef]
                intro S5 ρ5 H5 s5 R5 wv rw5
                obtain ⟨g1, g2, g3⟩ := far (s4.trans s5) R5
                have s5' : Step B S4 ρ4 S5 ρ5 := s5.base baseN
                have h4 : After (gt X ξ) W B S3 ρ2 σ ((open Classical in if still st5 then compL t (own.map (·.2)) c f still σI (items.drop (i + 1)) (acc ++ [yv]) st5 else .no).bind fun acc st2 => .ok (Val.lst acc) st2) (fun v S' ρ' _ H' => ∀ w, RV (gt X ξ) S' ρ' v w → Q w H') := h4
                by_cases h6 : still st5
                · rw [if_pos h6] at h4
                  have ra5 := ((ra.mono s3.s s3.r).mono s4.s s4.r).mono s5.s s5.r
                  refine ⟨accV, g1, ?_, S5, ρ5, st5, acc ++ [yv], accV ++ [wv], s2.trans (s3.trans (s4'.trans s5')), (R5.base sB).aside g2 hDB g3, h6, upd_same, ra5.append (.cons rw5 .nil), by simp; omega, g2, g3, h4.shift (s4'.trans s5')⟩
                  have q1 : items.length ≤ 1000000 := of_decide_eq_true hsm
                  have q2 : i < items.length := hi3
                  rw [← ra5.length, sizeLine_eq]; omega
                · rw [if_neg h6] at h4; exact h4.elim
    · rintro H2 ⟨S2, ρ2, st2, acc, accV, s2, R2, h2, hd2, ra, hl, d1, d2, h3⟩
      have ed : items.drop items.length = [] := List.drop_length
      rw [ed] at h3
      have sS : Same S2 (upd S2 D (.lst accV)) := fun p u e => by rw [upd_ne (ne_of_none e d1)]; exact e
      refine h3 (upd S2 D (.lst accV)) ρ2 H2 ⟨sS, List.prefix_refl _, fun p q => ?_⟩ ⟨R2.b, fun p u e => ?_, R2.nd, R2.len, fun j p hp => ⟨?_, (R2.fr j p hp).2⟩, fun j p ob a b => (R2.ob j p ob a b).mono sS (List.prefix_refl _) fun _ e => e⟩ _ (.lst upd_same (ra.mono sS (List.prefix_refl _)))
      · by_cases hp : p = D
        · subst hp; exact .inr hDB
        · rw [upd_ne hp] at q; exact .inl q
      · by_cases hp : p = D
        · subst hp; rw [upd_same] at e; cases e; exact hd2
        · rw [upd_ne hp] at e; exact R2.s _ _ e
      · rw [upd_ne (by rintro rfl; exact d2 (List.mem_of_getElem? hp))]; exact (R2.fr j p hp).1
  · rw [if_neg hst] at h1; exact h1.elim
theorem ts_nil {X : Cx} {ξ : Exo} {W : WX} : PTs X [] (TB (gt X ξ) W bYes) := ⟨fun pins s σ H Q I ⟨B, S, ρ, σI, st, R, L, h⟩ => pts_nil.run pins s σ H Q I (h.here R)⟩
theorem ts_one {X : Cx} {ξ : Exo} {W : WX} {e : Expr} {c : BI} (h : PT X e (TB (gt X ξ) W c)) : PTs X [e] (TB (gt X ξ) W c) := pts_one h
theorem i_lc (hc : X.calm = true) (hN : X.N.Nodup) (hi : PI X tg iter (TIt (gt X ξ) W it)) (ok : BlkOk X.N X.env.scope scope own) (hsl : ∀ i ∈ Tg.slots t, i ∈ own.map (·.2))
    (hg : ∀ (s : Shared) (H : Hp) (C : Addr) (cl : List (Str × Addr)) (fp : List Addr), PG (X.blk s H scope (compEnvC scope cl C X.env) fp) tg (Tg.g X.K t))
    (ht : ∀ (s : Shared) (H : Hp) (C : Addr) (cl : List (Str × Addr)) (fp : List Addr), PTs (X.blk s H scope (compEnvC scope cl C X.env) fp) ifs (TB (gt X ξ) W0 c))
    (he : ∀ (s : Shared) (H : Hp) (C : Addr) (cl : List (Str × Addr)) (fp : List Addr), PE (X.blk s H scope (compEnvC scope cl C X.env) fp) elt (TI (gt X ξ) W0 f)) (hs : ∀ x, foldedSetIterable iter X.env x = pure x := by intro _; rfl) :
    PE X (.ListComp elt [⟨tg, iter, ifs, 0⟩] scope pos) (TI (gt X ξ) W (eComp it t (own.map (·.2)) c f)) :=
  (pe_lc hc hN hi ok hg ht he hs).weak fun _ _ _ h => lc_imp hsl (fun _ _ _ q => q) (fun _ _ _ q => q) h
theorem s_lc {i : Nat} {y : Str} {py spos : Pos} (hc : X.calm = true) (hN : X.N.Nodup) (hy : X.N[i]? = some y) (hyl : X.env.scope.names.lookup y = some .local)
    (hsw : swapsWith (.ListComp elt [⟨tg, iter, ifs, 0⟩] scope pos) (some (.Name y py)) spos.line X.env = pure true) (hi : PI X tg iter (TIt (gt X ξ) W it)) (ok : BlkOk X.N X.env.scope scope own) (hsl : ∀ i ∈ Tg.slots t, i ∈ own.map (·.2))
    (hg : ∀ (s : Shared) (H : Hp) (C : Addr) (cl : List (Str × Addr)) (fp : List Addr), PG (X.blk s H scope (compEnvC scope cl C X.env) fp) tg (Tg.g X.K t))
    (ht : ∀ (s : Shared) (H : Hp) (C : Addr) (cl : List (Str × Addr)) (fp : List Addr), PTs (X.blk s H scope (compEnvC scope cl C X.env) fp) ifs (TB (gt X ξ) W0 c))
    (he : ∀ (s : Shared) (H : Hp) (C : Addr) (cl : List (Str × Addr)) (fp : List Addr), PE (X.blk s H scope (compEnvC scope cl C X.env) fp) elt (TI (gt X ξ) W0 f)) (hs : ∀ x, foldedSetIterable iter X.env x = pure x := by intro _; rfl) :
    PS X (.Assign [.Name y py] (.ListComp elt [⟨tg, iter, ifs, 0⟩] scope pos) spos) (TS' (gt X ξ) W (sAsg (.nm i) (eComp it t (own.map (·.2)) c f))) := by
  refine (ps_setLc hc hN hy hyl hsw hi ok hg ht he hs).weak fun D σ H ⟨B, S, ρ, σI, st, R, L, h⟩ => ?_
  have q : TI (gt X ξ) W (eComp it t (own.map (·.2)) c f) σ H fun x H1 => gName i x σ H1 D.nx := by
    refine ⟨B, S, ρ, σI, st, R, L, (AfterS.sb h L).imp fun x S1 ρ1 st1 H1 s1 R1 h1 w r1 => ?_⟩
    simp only [Tg.st] at h1
    exact h1 S1 ρ1 H1 _ Step.refl R1 ((L.mono s1.s s1.r).set r1 i)
  exact lc_imp hsl (fun _ _ _ q => q) (fun _ _ _ q => q) q
end
end
end Bd

namespace Bd
noncomputable section
open PySem L2
/-- what is known of a def of the text -/
def Kn (P : Program) (w : World) (K : PySem.W.Frag) (mg : Str → Option Value) (base : Heap) (x : Str) (k n : Nat) (ds : List Value) (F : FI) : Prop :=
  ∃ f fd ps, ps.length = n ∧ FnOk P w K mg base (L2N.CX P w) k f fd ps (spI ⟨K, mg, none⟩ n F) ∧ mg x = some (.ref f) ∧ PySem.W.keepIn K (.ref f) = true ∧ Binds K fd ps ds
/-- an own error class without __init__ -/
def ExK (K : PySem.W.Frag) (mg : Str → Option Value) (x : Str) : Prop :=
  ∃ C, mg x = some (.ref C) ∧ PySem.W.excIn K C [.type "ValueError", .type "Exception", .type "BaseException", .type "object"] "ValueError.__new__" = true ∧ PySem.W.keepIn K (.ref C) = true ∧ PySem.W.subIn K (.ref C) (.type "BaseException") = some true ∧ PySem.W.typeIn K (.ref C) = some (.type "type")
section
variable {X : Cx} {W : WX} {e : Expr} {es : List Expr} {r : AI} {F : FI} {j k n : Nat} {dvs : List V} {dV : List Val} {ds : List Value} {x : Str} {p pos : Pos}
theorem i_kn (h : Kn X.prog X.w X.K X.mg X.base x k n [] F) (tk : L2N.Takes X W) (hr : Room j X.A) (hj : k ≤ j) (hg : Gl X x) (ha : PA X (e :: es) (TL (gt X none) W r)) (hal : AI.len r (es.length + 1)) (hlen : es.length + 1 = n)
    (hdb : (x == ("__debug__" : Str)) = false := by decide) (he : starEach (e :: es) X.env = (false, eval e X.env) :: starEach es X.env := by rfl) (hpl : (backTo pos (starEach es X.env)).any (·.1) = false := by rfl) :
    PE X (.Call (.Name x p) (e :: es) [] pos) (TI (gt X none) W (eCallP F [] r)) := by
  obtain ⟨f, fd, ps, hp, D, hm, hk, hb⟩ := h
  exact i_callP D tk (hr.mono hj) hg hm hk hb (dvs := []) .nil (fun _ _ _ => .nil) (by simpa using hlen) ha hal hdb he hpl
theorem i_knD (h : Kn X.prog X.w X.K X.mg X.base x k n ds F) (hd : Vals dvs ds) (hdv : DefV dV dvs) (tk : L2N.Takes X W) (hr : Room j X.A) (hj : k ≤ j) (hg : Gl X x) (ha : PA X (e :: es) (TL (gt X none) W r)) (hal : AI.len r (es.length + 1)) (hlen : es.length + 1 + dV.length = n)
    (hdb : (x == ("__debug__" : Str)) = false := by decide) (he : starEach (e :: es) X.env = (false, eval e X.env) :: starEach es X.env := by rfl) (hpl : (backTo pos (starEach es X.env)).any (·.1) = false := by rfl) :
    PE X (.Call (.Name x p) (e :: es) [] pos) (TI (gt X none) W (eCallP F dV r)) := by
  obtain ⟨f, fd, ps, hp, D, hm, hk, hb⟩ := h
  exact i_callP D tk (hr.mono hj) hg hm hk hb hd hdv hlen ha hal hdb he hpl
theorem s_ex {ξ : Exo} {m : Str} {i : Nat} {p2 rpos : Pos} (h : ExK X.K X.mg x) (hc : X.calm = true) (tk : L2N.Takes X W) (hg : Gl X x) (hdb : (x == ("__debug__" : Str)) = false := by decide) :
    PS X (.Raise (some (.Call (.Name x p) [.Constant (.str m) i p2] [] pos)) none rpos) (TS' (gt X ξ) W (sRaise x)) := by
  obtain ⟨C, h1, h2, h3, h4, h5⟩ := h
  exact s_raise hc tk PySem.F.excBase_ValueError h2 h1 h3 (raises_own h4 h5) hg hdb
end
/-- a def of the text, from its body's meaning -/
theorem kn_mk {P : Program} {w : World} {K : PySem.W.Frag} {mg : Str → Option Value} {base : Heap} {x qual : Str} {st : Stmt} {f : Addr} {fd : FuncData} {N ps : List Str} {k n : Nat} {ds : List Value} {F : SI}
    (D : Fun K x qual st f fd) (hm : mg x = some (.ref f)) (hb : Binds K fd ps ds) (S : FnScope N ps (defScope st)) (hn : ps.length = n)
    (body : ∀ (X : Cx) (W : WX) (cdv : Value) (A : Around) (outer : List Env) (s : Shared) (H : Hp) (E : XK), X = cxOf (L2N.CX P w) P w K mg base N qual (defScope st) f cdv A outer s H E → L2N.Takes X W → Room k X.A → PSs X (defBody st) (TS' ⟨K, mg, none⟩ W F)) :
    Kn P w K mg base x (k + 1) n ds (toF N.length F) := ⟨f, fd, ps, hn, fn_ok D S hn body, hm, D.kp, hb⟩
end
end Bd

namespace Bd
noncomputable section
open PySem L2
/-! ### methods of lists: content, arguments -> answer, new content -/
abbrev MI := Sto → List Val → List Val → Option (Val × List Val)
def eM (k : MI) (fo : EI) (r : AI) : EI := fun σ st => (fo σ st).bind fun x st1 => match x with
  | .ref i => match obLst st1[i]? with
    | some _ => (r σ st1).bind fun vs st2 => match obLst st2[i]? with
      | some l => match k st2 l vs with
        | some (v, l') => .ok v (st2.set i (.lst l'))
        | none => .no
      | none => .no
    | none => .no
  | _ => .no
def mApp : MI := fun _ l vs => match vs with
  | [v] => if small l.length = true then some (.non, l ++ [v]) else none
  | _ => none
def mExt : MI := fun st l vs => match vs with
  | [v] => (lstOf st v).bind fun us => if l.length + us.length ≤ 1000000 then some (.non, l ++ us) else none
  | _ => none
def mPop : MI := fun _ l vs => match vs with
  | [] => (l[l.length - 1]?).map fun v => (v, l.dropLast)
  | _ => none
def mPopAt : MI := fun _ l vs => match vs with
  | [.int i] => if small62 i = true then (seqIndex? i l.length).bind fun k => (l[k]?).map fun v => (v, l.eraseIdx k) else none
  | _ => none
def mIns : MI := fun _ l vs => match vs with
  | [.int i, v] => if small l.length = true ∧ 0 ≤ i ∧ small62 i = true then some (.non, l.take i.toNat ++ [v] ++ l.drop i.toNat) else none
  | _ => none
def mRev : MI := fun _ l vs => match vs with
  | [] => some (.non, l.reverse)
  | _ => none
def BearsM (X : Cx) (ξ : Exo) (r : V → List V → Hp → VK → Prop) (k : MI) : Prop :=
  ∀ (B S : Hp) (ρ : List Addr) (st : Sto) (H : Hp) (l l' vs : List Val) (v : Val) (ws us : List V) (p : Addr) (Q : VK), HR (gt X ξ) B S ρ st H → RVs (gt X ξ) S ρ l ws → RVs (gt X ξ) S ρ vs us → H p = some (.lst ws) → k st l vs = some (v, l') →
    (∀ w ws', RV (gt X ξ) S ρ v w → RVs (gt X ξ) S ρ l' ws' → Q w (upd H p (.lst ws'))) → r (.ref p) us H Q
theorem RVs.dropLast {G : Gt} {S : Hp} {ρ : List Addr} {vs : List Val} {ws : List V} (r : RVs G S ρ vs ws) : RVs G S ρ vs.dropLast ws.dropLast := by
  rw [List.dropLast_eq_take, List.dropLast_eq_take, r.length]; exact r.take _
theorem RVs.reverse {G : Gt} {S : Hp} {ρ : List Addr} : ∀ {vs : List Val} {ws : List V}, RVs G S ρ vs ws → RVs G S ρ vs.reverse ws.reverse
  | _, _, .nil => .nil
  | _, _, .cons a b => by rw [List.reverse_cons, List.reverse_cons]; exact (RVs.reverse b).append (.cons a .nil)
section
variable {X : Cx} {ξ : Exo} {W : WX} {o e : Expr} {es : List Expr} {fo f : EI} {r : AI} {name : Str} {apos cpos : Pos} {id : String} {rr : V → List V → Hp → VK → Prop} {k : MI}
theorem mApp_bears : BearsM X ξ rAppend mApp := by
  intro B S ρ st H l l' vs v ws us p Q R rl rv hp e q
  unfold mApp at e
  split at e
  · split at e
    · rename_i hz
      cases e
      obtain ⟨w, rfl, r1⟩ := one_rvs rv
      have : l.length ≤ 1000000 := of_decide_eq_true hz
      exact ⟨p, ws, w, rfl, rfl, hp, by rw [← rl.length, sizeLine_eq]; omega, q _ _ .non (rl.append (.cons r1 .nil))⟩
    · cases e
  · cases e
theorem mExt_bears : BearsM X ξ rExtend mExt := by
  intro B S ρ st H l l' vs v ws us p Q R rl rv hp e q
  unfold mExt at e
  split at e
  · obtain ⟨zs, e1, e2⟩ := Option.bind_eq_some_iff.mp e
    split at e2
    · rename_i hz
      cases e2
      obtain ⟨w, rfl, r1⟩ := one_rvs rv
      obtain ⟨b, us2, rfl, hb, r2⟩ := lstOf_get R r1 e1
      exact ⟨p, b, ws, us2, rfl, rfl, hp, hb, by rw [← rl.length, ← r2.length, sizeLine_eq]; omega, q _ _ .non (rl.append r2)⟩
    · cases e2
  · cases e
theorem mPop_bears : BearsM X ξ rPop mPop := by
  intro B S ρ st H l l' vs v ws us p Q R rl rv hp e q
  unfold mPop at e
  split at e
  · obtain ⟨y, e1, e2⟩ := Option.map_eq_some_iff.mp e
    cases e2
    cases rv
    obtain ⟨w, e3, r1⟩ := rl.get e1
    exact ⟨p, ws, w, rfl, rfl, hp, by rw [← rl.length]; exact e3, q _ _ r1 rl.dropLast⟩
  · cases e
theorem mPopAt_bears : BearsM X ξ rPopAt mPopAt := by
  intro B S ρ st H l l' vs v ws us p Q R rl rv hp e q
  unfold mPopAt at e
  split at e
  · rename_i i
    split at e
    · rename_i hz
      obtain ⟨j, e1, e2⟩ := Option.bind_eq_some_iff.mp e
      obtain ⟨y, e3, e4⟩ := Option.map_eq_some_iff.mp e2
      cases e4
      obtain ⟨w, rfl, r1⟩ := one_rvs rv
      cases r1
      obtain ⟨w, e5, r2⟩ := rl.get e3
      have z := small62_to hz
      exact ⟨p, ws, i, j, w, rfl, rfl, hp, by omega, by omega, by rw [← rl.length]; exact e1, e5, q _ _ r2 (rl.eraseIdx j)⟩
    · cases e
  · cases e
theorem mIns_bears : BearsM X ξ (fun x vs H Q => ∃ (l : Addr) (xs : List V) (i : Int) (y : V), x = .ref l ∧ vs = [.int i, y] ∧ H l = some (.lst xs) ∧ xs.length < sizeLine ∧ 0 ≤ i ∧ i < 2 ^ 63 ∧ Q .non (upd H l (.lst (xs.take i.toNat ++ [y] ++ xs.drop i.toNat)))) mIns := by
  intro B S ρ st H l l' vs v ws us p Q R rl rv hp e q
  unfold mIns at e
  split at e
  · rename_i i y
    split at e
    · rename_i hz
      cases e
      obtain ⟨hz, h0, h1⟩ := hz
      obtain ⟨w1, w2, rfl, r1, r2⟩ := two_rvs rv
      cases r1
      have : l.length ≤ 1000000 := of_decide_eq_true hz
      have z := small62_to h1
      exact ⟨p, ws, i, w2, rfl, rfl, hp, by rw [← rl.length, sizeLine_eq]; omega, h0, by omega, q _ _ .non (((rl.take _).append (.cons r2 .nil)).append (rl.drop _))⟩
    · cases e
  · cases e
theorem mRev_bears : BearsM X ξ rReverse mRev := by
  intro B S ρ st H l l' vs v ws us p Q R rl rv hp e q
  unfold mRev at e
  split at e
  · cases e
    cases rv
    exact ⟨p, ws, rfl, rfl, hp, q _ _ .non rl.reverse⟩
  · cases e
theorem m_imp (hk : BearsM X ξ rr k) {σ : St} {H : Hp} {Q : VK} (h : TI (gt X ξ) W (eM k fo r) σ H Q) : tBM X.K "list" rr (TI (gt X ξ) W fo) (TL (gt X ξ) W r) σ H Q := by
  obtain ⟨B, S, ρ, σI, st, R, L, h⟩ := h
  refine ⟨B, S, ρ, σI, st, R, L, (After.bind h).imp fun x S1 ρ1 st1 H1 s1 R1 h1 w1 r1 => ?_⟩
  split at h1
  · rename_i i
    split at h1
    · rename_i l0 hl0
      cases r1 with
      | ref a =>
        obtain ⟨ws0, hp0, _⟩ := ref_get R1 a hl0
        refine ⟨.inl ⟨rfl, _, SqL.of hp0⟩, B, S1, ρ1, σI, st1, R1, L.mono s1.s s1.r, h1.bind.imp fun vs S2 ρ2 st2 H2 s2 R2 h2 us r2 => ?_⟩
        have a2 := pre_get s2.r a
        split at h2
        · rename_i l hl
          split at h2
          · rename_i v l' hkk
            obtain ⟨ws, hp, rl⟩ := ref_get R2 a2 hl
            refine hk B S2 ρ2 st2 H2 l l' vs v ws us _ Q R2 rl r2 hp hkk fun w ws' rw' rws => ?_
            exact h2 S2 ρ2 _ Step.refl (R2.put a2 ⟨ws', upd_same, rws⟩) w rw'
          · exact h2.elim
        · exact h2.elim
    · exact h1.elim
  · exact h1.elim
theorem i_meth (hk : BearsM X ξ rr k) (hm : MtR X id rr) (slot : Slot "list" name id) (hty : typeOf (.builtin id) = pure (.type "method_descriptor")) (ho : PE X o (TI (gt X ξ) W fo)) (ha : PA X (e :: es) (TL (gt X ξ) W r))
    (hb : attributeBase o name X.env (eval o X.env) = eval o X.env := by rfl)
    (hc : ((backTo cpos (starEach (e :: es) X.env)).all (fun x => !x.1) && (backToKw cpos (keywordEach [] X.env)).all (fun x => x.1.isSome) && decide ((e :: es).length + ([] : List Keyword).length + (if ([] : List Keyword).isEmpty then 0 else 1) < 30)) = true := by rfl)
    (hl : (apos.endLine == cpos.line) = true := by rfl) (he : starEach (e :: es) X.env = (false, eval e X.env) :: starEach es X.env := by rfl) (hpl : (backTo cpos (starEach es X.env)).any (·.1) = false := by rfl) :
    PE X (.Call (.Attribute o name apos) (e :: es) [] cpos) (TI (gt X ξ) W (eM k fo r)) :=
  (pe_bm PySem.F.plainAttrs_list slot hty hm ho ha hb hc hl he hpl).weak fun _ _ _ h => m_imp hk h
theorem i_meth0 (hk : BearsM X ξ rr k) (hm : MtR X id rr) (slot : Slot "list" name id) (hty : typeOf (.builtin id) = pure (.type "method_descriptor")) (ho : PE X o (TI (gt X ξ) W fo))
    (hb : attributeBase o name X.env (eval o X.env) = eval o X.env := by rfl) (hl : (apos.endLine == cpos.line) = true := by rfl) :
    PE X (.Call (.Attribute o name apos) [] [] cpos) (TI (gt X ξ) W (eM k fo aNil)) := by
  refine (pe_bm0 PySem.F.plainAttrs_list slot hty hm ho hb hl).weak fun σ H Q h => ?_
  have q := m_imp (X := X) hk h
  obtain ⟨B, S, ρ, σI, st, R, L, h1⟩ := q
  refine ⟨B, S, ρ, σI, st, R, L, h1.imp fun x S1 ρ1 st1 H1 s1 R1 h2 w1 r1 => ?_⟩
  obtain ⟨t1, B2, S2, ρ2, σI2, st2, R2, L2', h3⟩ := h2 w1 r1
  exact ⟨t1, h3.here R2 [] .nil⟩
theorem i_append (ho : PE X o (TI (gt X ξ) W fo)) (ha : PE X e (TI (gt X ξ) W f)) (hb : attributeBase o "append" X.env (eval o X.env) = eval o X.env := by rfl)
    (hc : ((backTo cpos (starEach [e] X.env)).all (fun x => !x.1) && (backToKw cpos (keywordEach [] X.env)).all (fun x => x.1.isSome) && decide ([e].length + ([] : List Keyword).length + (if ([] : List Keyword).isEmpty then 0 else 1) < 30)) = true := by rfl)
    (hl : (apos.endLine == cpos.line) = true := by rfl) (he : starEach [e] X.env = (false, eval e X.env) :: starEach [] X.env := by rfl) (hpl : (backTo cpos (starEach [] X.env)).any (·.1) = false := by rfl) :
    PE X (.Call (.Attribute o "append" apos) [e] [] cpos) (TI (gt X ξ) W (eM mApp fo (aCons f aNil))) := i_meth mApp_bears mt_append PySem.F.slot_list_append PySem.F.type_list_append ho (a_cons ha a_nil he) hb hc hl he hpl
theorem i_extend (ho : PE X o (TI (gt X ξ) W fo)) (ha : PE X e (TI (gt X ξ) W f)) (hb : attributeBase o "extend" X.env (eval o X.env) = eval o X.env := by rfl)
    (hc : ((backTo cpos (starEach [e] X.env)).all (fun x => !x.1) && (backToKw cpos (keywordEach [] X.env)).all (fun x => x.1.isSome) && decide ([e].length + ([] : List Keyword).length + (if ([] : List Keyword).isEmpty then 0 else 1) < 30)) = true := by rfl)
    (hl : (apos.endLine == cpos.line) = true := by rfl) (he : starEach [e] X.env = (false, eval e X.env) :: starEach [] X.env := by rfl) (hpl : (backTo cpos (starEach [] X.env)).any (·.1) = false := by rfl) :
    PE X (.Call (.Attribute o "extend" apos) [e] [] cpos) (TI (gt X ξ) W (eM mExt fo (aCons f aNil))) := i_meth mExt_bears mt_extend PySem.F.slot_list_extend PySem.F.type_list_extend ho (a_cons ha a_nil he) hb hc hl he hpl
theorem i_pop (ho : PE X o (TI (gt X ξ) W fo)) (hb : attributeBase o "pop" X.env (eval o X.env) = eval o X.env := by rfl) (hl : (apos.endLine == cpos.line) = true := by rfl) :
    PE X (.Call (.Attribute o "pop" apos) [] [] cpos) (TI (gt X ξ) W (eM mPop fo aNil)) := i_meth0 mPop_bears mt_pop PySem.F.slot_list_pop PySem.F.type_list_pop ho hb hl
theorem i_popAt (ho : PE X o (TI (gt X ξ) W fo)) (ha : PE X e (TI (gt X ξ) W f)) (hb : attributeBase o "pop" X.env (eval o X.env) = eval o X.env := by rfl)
    (hc : ((backTo cpos (starEach [e] X.env)).all (fun x => !x.1) && (backToKw cpos (keywordEach [] X.env)).all (fun x => x.1.isSome) && decide ([e].length + ([] : List Keyword).length + (if ([] : List Keyword).isEmpty then 0 else 1) < 30)) = true := by rfl)
    (hl : (apos.endLine == cpos.line) = true := by rfl) (he : starEach [e] X.env = (false, eval e X.env) :: starEach [] X.env := by rfl) (hpl : (backTo cpos (starEach [] X.env)).any (·.1) = false := by rfl) :
    PE X (.Call (.Attribute o "pop" apos) [e] [] cpos) (TI (gt X ξ) W (eM mPopAt fo (aCons f aNil))) := i_meth mPopAt_bears mt_popAt PySem.F.slot_list_pop PySem.F.type_list_pop ho (a_cons ha a_nil he) hb hc hl he hpl
theorem i_reverse (ho : PE X o (TI (gt X ξ) W fo)) (hb : attributeBase o "reverse" X.env (eval o X.env) = eval o X.env := by rfl) (hl : (apos.endLine == cpos.line) = true := by rfl) :
    PE X (.Call (.Attribute o "reverse" apos) [] [] cpos) (TI (gt X ξ) W (eM mRev fo aNil)) := i_meth0 mRev_bears mt_reverse PySem.F.slot_list_reverse PySem.F.type_list_reverse ho hb hl
theorem i_insert {e2 : Expr} {f2 : EI} (ho : PE X o (TI (gt X ξ) W fo)) (ha : PE X e (TI (gt X ξ) W f)) (ha2 : PE X e2 (TI (gt X ξ) W f2)) (hb : attributeBase o "insert" X.env (eval o X.env) = eval o X.env := by rfl)
    (hc : ((backTo cpos (starEach [e, e2] X.env)).all (fun x => !x.1) && (backToKw cpos (keywordEach [] X.env)).all (fun x => x.1.isSome) && decide ([e, e2].length + ([] : List Keyword).length + (if ([] : List Keyword).isEmpty then 0 else 1) < 30)) = true := by rfl)
    (hl : (apos.endLine == cpos.line) = true := by rfl) (he : starEach [e, e2] X.env = (false, eval e X.env) :: starEach [e2] X.env := by rfl) (he2 : starEach [e2] X.env = (false, eval e2 X.env) :: starEach [] X.env := by rfl) (hpl : (backTo cpos (starEach [e2] X.env)).any (·.1) = false := by rfl) :
    PE X (.Call (.Attribute o "insert" apos) [e, e2] [] cpos) (TI (gt X ξ) W (eM mIns fo (aCons f (aCons f2 aNil)))) := i_meth mIns_bears mt_insert PySem.F.slot_list_insert PySem.F.type_list_insert ho (a_cons ha (a_cons ha2 a_nil he2) he) hb hc hl he hpl
end
/-! ### o[i] = e -/
def sSetI (fo fi fe : EI) : SI := fun σ st => sb (fe σ st) σ fun v st1 => sb (fo σ st1) σ fun x st2 => sb (fi σ st2) σ fun i st3 => match x, i with
  | .ref n, .int j => match obLst st3[n]? with
    | some l => match ixN l.length j with
      | some m => .nx σ (st3.set n (.lst (l.set m v)))
      | none => .no
    | none => .no
  | _, _ => .no
section
variable {X : Cx} {ξ : Exo} {W : WX} {o i e : Expr} {fo fi fe : EI} {pos spos : Pos}
theorem s_seti (he : PE X e (TI (gt X ξ) W fe)) (ho : PE X o (TI (gt X ξ) W fo)) (hi : PE X i (TI (gt X ξ) W fi))
    (ha : ∀ v, assign (.Subscript o i pos) X.env v = (do
      let ov ← holding [v] (eval o X.env)
      let iv ← holding [v, ov] (eval i X.env)
      standAt pos
      holding [v, ov, iv] (setItem ov iv v)
      release [v, ov, iv] []) := by intro _; rfl)
    (hs : swapsWithSole [.Subscript o i pos] e spos.line X.env = pure false := by rfl) (hw : swappedStores [.Subscript o i pos] e X.env = pure none := by rfl) (h1 : (assignEach [.Subscript o i pos] X.env).map (·.2) = [assign (.Subscript o i pos) X.env] := by rfl) :
    PS X (.Assign [.Subscript o i pos] e spos) (TS' (gt X ξ) W (sSetI fo fi fe)) := by
  refine (ps_asg he (pg_sub ho hi set_list ha) hs hw h1).weak fun D σ H ⟨B, S, ρ, σI, st, R, L, h⟩ => ?_
  refine ⟨B, S, ρ, σI, st, R, L, (AfterS.sb h L).imp fun v S1 ρ1 st1 H1 s1 R1 h1 w1 r1 => ?_⟩
  have L1 := L.mono s1.s s1.r
  refine ⟨B, S1, ρ1, σI, st1, R1, L1, (AfterS.sb h1 L1).imp fun x S2 ρ2 st2 H2 s2 R2 h2 w2 r2 => ?_⟩
  have L2' := L1.mono s2.s s2.r
  refine ⟨B, S2, ρ2, σI, st2, R2, L2', (AfterS.sb h2 L2').imp fun y S3 ρ3 st3 H3 s3 R3 h3 w3 r3 => ?_⟩
  split at h3
  · rename_i n j
    cases r3
    cases r2 with
    | ref a =>
      have a3 := pre_get s3.r a
      split at h3
      · rename_i l hl
        split at h3
        · rename_i m hm
          obtain ⟨ws, hp, rl⟩ := ref_get R3 a3 hl
          refine ⟨_, ws, j, m, rfl, rfl, hp, by rw [← rl.length]; exact hm, ?_⟩
          exact h3 S3 ρ3 _ σ Step.refl (R3.put a3 ⟨_, upd_same, rl.set ((r1.mono s2.s s2.r).mono s3.s s3.r) m⟩) (L2'.mono s3.s s3.r)
        · exact h3.elim
      · exact h3.elim
  · exact h3.elim
end
end
end Bd

namespace Bd
noncomputable section
open PySem L2
/-- the law's promise: True at every script -/
def spLaw (K : PySem.W.Frag) : Sp := fun vs H Q _ => ∃ (a : Addr) (ns : List Int), vs = [.ref a] ∧ SqL K H a (ns.map V.int) ∧ ns.length ≤ 63 ∧ (∀ z ∈ ns, Builtin.Int.intBits z ≤ 1048576) ∧ ∀ H', Q (.bl true) H'
/-- what is to be shown of the law's meaning -/
def LawHolds (F : FI) : Prop := ∀ ns : List Int, ns.length ≤ 63 → (∀ z ∈ ns, Builtin.Int.intBits z ≤ 1048576) → ∃ st, F [.scr (ns.map .int)] [] = .ok (.bl true) st
theorem law_imp {K : PySem.W.Frag} {mg : Str → Option Value} {F : FI} (h : LawHolds F) (vs : List V) (H : Hp) (Q : VK) (E : XK) (q : spLaw K vs H Q E) : spI ⟨K, mg, none⟩ 1 F vs H Q E := by
  obtain ⟨a, ns, rfl, hS, hl, hb, k⟩ := q
  have rv : ∀ ns : List Int, RVs ⟨K, mg, none⟩ H [] (ns.map Val.int) (ns.map V.int) := fun ns => RVs.ofMap fun i _ => .int i
  refine ⟨rfl, H, H, [], [], [.scr (ns.map .int)], ⟨Same.refl _, Same.refl _, by simp, rfl, fun i p h => by simp at h, fun i p o h => by simp at h⟩, .cons (.scr hS (rv ns)) .nil, ?_⟩
  obtain ⟨st, e⟩ := h ns hl hb
  rw [e]
  intro S' ρ' H' w s R r
  cases r
  exact k H'
theorem walk_law {l : PySem.W.OpenLaw} {k : Nat} {q : Program} {loose : List Str} {XP : (Str → Option Value) → Heap → Prop} {YP : World → Heap → Prop} {d : DefRec} {K : Params → PySem.W.Frag} (hn : l.most = some 63) (hdf : d.params.defaults = []) (hr : Room k callerA)
    (hY : ∀ (w : World) (h : Heap), YP w h → (K w.params).In h)
    (F : ∀ (w : World) (mg : Str → Option Value) (fa : Addr) (h : Heap), (K w.params).In h → h.Ns mainGlobals mg → mg d.name = some (.ref fa) →
      ∃ fd : FuncData, (∀ (s : Shared) (u : Value), BindsTo s fd ⟨[u], []⟩ [("_law_script", u)]) ∧ ∀ base : Heap, (K w.params).In base → base.Ns mainGlobals mg → FnOk l.prog w (K w.params) mg base (L2N.CX l.prog w) k fa fd ["_law_script"] (spLaw (K w.params))) :
    PySem.W.WalkO q loose XP YP l.row.toRowW d [] (fun f vs => PySem.call f vs) :=
  L2.walk_ofB (n := 63) (k := k) (x := "_law_script") (CX := fun w => L2N.CX l.prog w) (sp := fun w => spLaw (K w.params)) hn (by decide) hdf hr hY F (fun _ _ a ns hl hb _ hS => ⟨a, ns, rfl, hS, hl, hb, fun _ => rfl⟩) fun _ _ _ _ _ z => by
    obtain ⟨_, _, _, _, _, _, _, _, _, _, _, _, z⟩ := z
    exact z.elim
end
end Bd

namespace Bd
noncomputable section
open PySem L2
/-! ## reckoning: what simp unfolds -/
section
variable {α β : Type} {σ : Sg} {st : Sto}
@[simp] theorem bind_ok {a : α} {k : α → Sto → Out β} : (Out.ok a st).bind k = k a st := rfl
@[simp] theorem bind_er {c : Str} {k : α → Sto → Out β} : (Out.er c st : Out α).bind k = .er c st := rfl
@[simp] theorem bind_no {k : α → Sto → Out β} : (Out.no : Out α).bind k = .no := rfl
@[simp] theorem x_aNil : aNil σ st = .ok [] st := rfl
@[simp] theorem x_aCons {a : EI} {r : AI} : aCons a r σ st = (a σ st).bind fun v st1 => (r σ st1).bind fun vs st2 => .ok (v :: vs) st2 := rfl
@[simp] theorem x_eTup {r : AI} : eTup r σ st = (r σ st).bind fun vs st1 => if small vs.length = true then .ok (.tup vs) st1 else .no := rfl
@[simp] theorem x_eLst {r : AI} : eLst r σ st = (r σ st).bind fun vs st1 => if small vs.length = true then .ok (.lst vs) st1 else .no := rfl
@[simp] theorem x_eLstN {r : AI} : eLstN r σ st = (r σ st).bind fun vs st1 => if small vs.length = true then .ok (.ref st1.length) (st1 ++ [.lst vs]) else .no := rfl
@[simp] theorem x_pNone : pNone σ st = .ok none st := rfl
@[simp] theorem x_pSome {f : EI} : pSome f σ st = (f σ st).bind fun v st1 => match v with
  | .int i => .ok (some i) st1
  | _ => .no := rfl
@[simp] theorem x_eSl {f : EI} {lo hi : PI'} : eSl f lo hi σ st = (f σ st).bind fun x st1 => (lo σ st1).bind fun l st2 => (hi σ st2).bind fun u st3 => kSl x l u st3 := rfl
@[simp] theorem x_bAnd {a b : BI} : bAnd a b σ st = (a σ st).bind fun c st1 => if c = true then b σ st1 else .ok false st1 := rfl
@[simp] theorem x_bOr {a b : BI} : bOr a b σ st = (a σ st).bind fun c st1 => if c = true then .ok true st1 else b σ st1 := rfl
@[simp] theorem x_bNot {a : BI} : bNot a σ st = (a σ st).bind fun c st1 => .ok (!c) st1 := rfl
@[simp] theorem x_bTru {f : EI} : bTru f σ st = (f σ st).bind fun v st1 => match tru st1 v with
  | some b => .ok b st1
  | none => .no := rfl
@[simp] theorem x_eAnd {a b : EI} : eAnd a b σ st = (a σ st).bind fun v st1 => match v with
  | .bl true => b σ st1
  | .bl false => .ok (.bl false) st1
  | _ => .no := rfl
@[simp] theorem x_eOr {a b : EI} : eOr a b σ st = (a σ st).bind fun v st1 => match v with
  | .bl false => b σ st1
  | .bl true => .ok (.bl true) st1
  | _ => .no := rfl
@[simp] theorem x_eNot {a : EI} : eNot a σ st = (a σ st).bind fun v st1 => match v with
  | .bl b => .ok (.bl (!b)) st1
  | _ => .no := rfl
@[simp] theorem x_eIf {c : BI} {a b : EI} : eIf c a b σ st = (c σ st).bind fun d st1 => if d = true then a σ st1 else b σ st1 := rfl
@[simp] theorem x_eChain {k k' : Val → Val → Sto → Out Val} {a b c : EI} : eChain k k' a b c σ st = (a σ st).bind fun x st1 => (b σ st1).bind fun y st2 => (k x y st2).bind fun z st3 => match z with
  | .bl true => (c σ st3).bind fun w st4 => k' y w st4
  | .bl false => .ok (.bl false) st3
  | _ => .no := rfl
@[simp] theorem x_eB {k : List Val → Sto → Out Val} {r : AI} : eB k r σ st = (r σ st).bind fun vs st1 => k vs st1 := rfl
@[simp] theorem x_eCallP {F : FI} {dvs : List Val} {r : AI} : eCallP F dvs r σ st = (r σ st).bind fun vs st1 => if flats (vs ++ dvs) = true then (match pure' F (vs ++ dvs) with
  | .ok v _ => .ok v st1
  | .er c _ => .er c st1
  | .no => .no) else (match rds st1 12 (vs ++ dvs) with
  | some ds => match pure' F ds with
    | .ok v _ => if tight v = true then .ok v st1 else .no
    | .er c _ => .er c st1
    | .no => .no
  | none => .no) := rfl
@[simp] theorem y_tup {vs : List Val} : tight (.tup vs) = tights vs := by simp only [tight]
@[simp] theorem y_int {i : Int} : tight (.int i) = true := by simp only [tight]
@[simp] theorem y_bl {i : Bool} : tight (.bl i) = true := by simp only [tight]
@[simp] theorem y_str {i : Str} : tight (.str i) = true := by simp only [tight]
@[simp] theorem y_non : tight .non = true := by simp only [tight]
@[simp] theorem y_nil : tights [] = true := by simp only [tights]
@[simp] theorem y_cons {v : Val} {vs : List Val} : tights (v :: vs) = (tight v && tights vs) := by simp only [tights]
@[simp] theorem sb_ok {a : α} {k : α → Sto → SOut} : sb (.ok a st) σ k = k a st := rfl
@[simp] theorem sb_er {c : Str} {k : α → Sto → SOut} : sb (.er c st : Out α) σ k = .er c σ st := rfl
@[simp] theorem sb_no {k : α → Sto → SOut} : sb (.no : Out α) σ k = .no := rfl
@[simp] theorem x_sSeq {f g : SI} : sSeq f g σ st = match f σ st with
  | .nx σ1 st1 => g σ1 st1
  | r => r := rfl
@[simp] theorem x_sPass : sPass σ st = .nx σ st := rfl
@[simp] theorem x_sBreak : sBreak σ st = .bk σ st := rfl
@[simp] theorem x_sCont : sCont σ st = .ct σ st := rfl
@[simp] theorem x_sExpr {f : EI} : sExpr f σ st = sb (f σ st) σ fun _ st1 => .nx σ st1 := rfl
@[simp] theorem x_sRet {f : EI} : sRet f σ st = sb (f σ st) σ fun v st1 => .rt v st1 := rfl
@[simp] theorem x_sRetN : sRetN σ st = .rt .non st := rfl
@[simp] theorem x_sAsg {t : Tg} {f : EI} : sAsg t f σ st = sb (f σ st) σ fun v st1 => match Tg.st st1 t v σ with
  | some σ1 => .nx σ1 st1
  | none => .no := rfl
@[simp] theorem x_sIf {c : BI} {a b : SI} : sIf c a b σ st = sb (c σ st) σ fun d st1 => if d = true then a σ st1 else b σ st1 := rfl
@[simp] theorem x_sAug {i : Nat} {f : EI} : sAug i f σ st = match σ[i]? with
  | some (some (.int a)) => sb (f σ st) σ fun v st1 => match v with
    | .int b => .nx (σ.set i (some (.int (a + b)))) st1
    | _ => .no
  | _ => .no := rfl
@[simp] theorem x_sRaise {c : Str} : sRaise c σ st = .er c σ st := rfl
@[simp] theorem x_sPar2 {i j : Nat} {r : AI} : sPar2 i j r σ st = sb (r σ st) σ fun vs st1 => match vs with
  | [a, b] => .nx ((σ.set i (some a)).set j (some b)) st1
  | _ => .no := rfl
@[simp] theorem x_sPar3 {i j l : Nat} {r : AI} : sPar3 i j l r σ st = sb (r σ st) σ fun vs st1 => match vs with
  | [a, b, c] => .nx (((σ.set i (some a)).set j (some b)).set l (some c)) st1
  | _ => .no := rfl
@[simp] theorem x_iSeq {f : EI} : iSeq f σ st = (f σ st).bind fun v st1 => match seqOf st1 v with
  | some vs => Out.ok (vs, fun st' => seqOf st' v = some vs) st1
  | none => Out.no := rfl
@[simp] theorem x_iRange1 {f : EI} : iRange1 f σ st = (f σ st).bind fun v st1 => match v with
  | .int n => if small62 n = true then Out.ok (α := List Val × (Sto → Prop)) (rangeV 0 n.toNat, fun _ => True) st1 else .no
  | _ => .no := rfl
@[simp] theorem x_iRange2 {f g : EI} : iRange2 f g σ st = (f σ st).bind fun a st1 => (g σ st1).bind fun b st2 => match a, b with
  | .int lo, .int hi => if small62 lo = true ∧ small62 hi = true then Out.ok (α := List Val × (Sto → Prop)) (rangeV lo (hi - lo).toNat, fun _ => True) st2 else .no
  | _, _ => .no := rfl
@[simp] theorem x_iEnum {f : EI} : iEnum' f σ st = (f σ st).bind fun v st1 => match listOf st1 v with
  | some vs => Out.ok (enumV 0 vs, fun st' => listOf st' v = some vs) st1
  | none => Out.no := rfl
@[simp] theorem x_iZip {f g : EI} : iZip' f g σ st = (f σ st).bind fun a st1 => (g σ st1).bind fun b st2 => match listOf st2 a, listOf st2 b with
  | some vs, some us => Out.ok (zipV vs us, fun st' => listOf st' a = some vs ∧ listOf st' b = some us) st2
  | _, _ => Out.no := rfl
theorem whileF_step {c : BI} {body : SI} {n : Nat} {σ1 : Sg} {st1 : Sto} (hc : c σ st = .ok true st) (hb : body σ st = .nx σ1 st1) : whileF c body (n + 1) σ st = whileF c body n σ1 st1 := by
  rw [whileF, hc, sb_ok, if_pos rfl, hb]
theorem whileF_stop {c : BI} {body : SI} {n : Nat} (hc : c σ st = .ok false st) : whileF c body (n + 1) σ st = .nx σ st := by
  rw [whileF, hc, sb_ok, if_neg Bool.false_ne_true]
theorem whileF_ret {c : BI} {body : SI} {n : Nat} {v : Val} {st1 : Sto} (hc : c σ st = .ok true st) (hb : body σ st = .rt v st1) : whileF c body (n + 1) σ st = .rt v st1 := by
  rw [whileF, hc, sb_ok, if_pos rfl, hb]
theorem whileF_brk {c : BI} {body : SI} {n : Nat} {σ1 : Sg} {st1 : Sto} (hc : c σ st = .ok true st) (hb : body σ st = .bk σ1 st1) : whileF c body (n + 1) σ st = .nx σ1 st1 := by
  rw [whileF, hc, sb_ok, if_pos rfl, hb]
theorem sWhile_to {c : BI} {body : SI} {n : Nat} {r : SOut} (h : whileF c body n σ st = r) (hr : r ≠ .no) : sWhile c body σ st = r := by
  rw [sWhile_eq (n := n) (by rw [h]; exact hr), h]
@[simp] theorem x_sFor' {it : II} {t : Tg} {body : SI} : sFor it t body σ st = sb (it σ st) σ fun x st1 => open Classical in if x.2 st1 then forL t body x.2 x.1 σ st1 else .no := rfl
@[simp] theorem x_eComp' {it : II} {t : Tg} {own : List Nat} {c : BI} {f : EI} : eComp it t own c f σ st = (it σ st).bind fun x st1 => open Classical in if x.2 st1 ∧ small x.1.length = true then (compL t own c f x.2 σ x.1 [] st1).bind fun acc st2 => .ok (.lst acc) st2 else .no := rfl
@[simp] theorem forL_nil {t : Tg} {body : SI} {still : Sto → Prop} : forL t body still [] σ st = .nx σ st := rfl
@[simp] theorem forL_cons {t : Tg} {body : SI} {still : Sto → Prop} {v : Val} {vs : List Val} : forL t body still (v :: vs) σ st = match Tg.st st t v σ with
    | none => .no
    | some σ1 => match body σ1 st with
      | .nx σ2 st2 => open Classical in if still st2 then forL t body still vs σ2 st2 else .no
      | .ct σ2 st2 => open Classical in if still st2 then forL t body still vs σ2 st2 else .no
      | .bk σ2 st2 => .nx σ2 st2
      | r => r := rfl
@[simp] theorem compL_nil {t : Tg} {own : List Nat} {c : BI} {f : EI} {still : Sto → Prop} {acc : List Val} : compL t own c f still σ [] acc st = .ok acc st := rfl
@[simp] theorem compL_cons {t : Tg} {own : List Nat} {c : BI} {f : EI} {still : Sto → Prop} {acc : List Val} {v : Val} {vs : List Val} : compL t own c f still σ (v :: vs) acc st = match Tg.st st t v (wipeI σ own) with
    | none => .no
    | some σ1 => (noer (c σ1 st)).bind fun b st2 => if b = true then (noer (f σ1 st2)).bind fun y st3 => (open Classical in if still st3 then compL t own c f still σ vs (acc ++ [y]) st3 else .no)
      else (open Classical in if still st2 then compL t own c f still σ vs acc st2 else .no) := rfl
@[simp] theorem noer_ok {a : α} : noer (.ok a st) = .ok a st := rfl
@[simp] theorem wipeI_nil : wipeI σ [] = σ := rfl
@[simp] theorem wipeI_cons {v : Nat} {vs : List Nat} : wipeI σ (v :: vs) = (wipeI σ vs).set v none := rfl
@[simp] theorem zipV_cons {a b : Val} {as bs : List Val} : zipV (a :: as) (b :: bs) = .tup [a, b] :: zipV as bs := rfl
@[simp] theorem zipV_nil {bs : List Val} : zipV [] bs = [] := rfl
@[simp] theorem enumV_cons {k : Nat} {a : Val} {as : List Val} : enumV k (a :: as) = .tup [.int (k : Nat), a] :: enumV (k + 1) as := rfl
@[simp] theorem enumV_nil {k : Nat} : enumV k [] = [] := rfl
theorem x_sFor {it : II} {t : Tg} {body : SI} {items : List Val} {still : Sto → Prop} {st1 : Sto} (h : it σ st = .ok (items, still) st1) (hs : still st1) : sFor it t body σ st = forL t body still items σ st1 := by
  unfold sFor; rw [h]; exact if_pos hs
theorem x_eComp {it : II} {t : Tg} {own : List Nat} {c : BI} {f : EI} {items : List Val} {still : Sto → Prop} {st1 : Sto} (h : it σ st = .ok (items, still) st1) (hs : still st1) (hz : small items.length = true) :
    eComp it t own c f σ st = (compL t own c f still σ items [] st1).bind fun acc st2 => .ok (.lst acc) st2 := by
  unfold eComp; rw [h]; exact if_pos ⟨hs, hz⟩
@[simp] theorem x_eM {k : MI} {fo : EI} {r : AI} : eM k fo r σ st = (fo σ st).bind fun x st1 => match x with
  | .ref i => match obLst st1[i]? with
    | some _ => (r σ st1).bind fun vs st2 => match obLst st2[i]? with
      | some l => match k st2 l vs with
        | some (v, l') => .ok v (st2.set i (.lst l'))
        | none => .no
      | none => .no
    | none => .no
  | _ => .no := rfl
@[simp] theorem x_sSetI {fo fi fe : EI} : sSetI fo fi fe σ st = sb (fe σ st) σ fun v st1 => sb (fo σ st1) σ fun x st2 => sb (fi σ st2) σ fun i st3 => match x, i with
  | .ref n, .int j => match obLst st3[n]? with
    | some l => match ixN l.length j with
      | some m => .nx σ (st3.set n (.lst (l.set m v)))
      | none => .no
    | none => .no
  | _, _ => .no := rfl
@[simp] theorem x_nm {i : Nat} {v : Val} : Tg.st st (.nm i) v σ = some (σ.set i (some v)) := by simp only [Tg.st]
@[simp] theorem x_tp {ts : List Tg} {v : Val} : Tg.st st (.tp ts) v σ = match seqOf st v with
    | some vs => Tg.sts st ts vs σ
    | none => none := by simp only [Tg.st] <;> rfl
@[simp] theorem x_ts0 : Tg.sts st [] [] σ = some σ := by simp only [Tg.sts]
@[simp] theorem x_ts1 {t : Tg} {ts : List Tg} {v : Val} {vs : List Val} : Tg.sts st (t :: ts) (v :: vs) σ = match Tg.st st t v σ with
    | some σ1 => Tg.sts st ts vs σ1
    | none => none := by simp only [Tg.sts] <;> rfl
/-! values -/
@[simp] theorem l_lst {vs : List Val} : lstOf st (.lst vs) = some vs := rfl
@[simp] theorem l_ref {i : Nat} : lstOf st (.ref i) = obLst st[i]? := rfl
@[simp] theorem l2_lst {vs : List Val} : listOf st (.lst vs) = some vs := rfl
@[simp] theorem l2_scr {vs : List Val} : listOf st (.scr vs) = some vs := rfl
@[simp] theorem l2_ref {i : Nat} : listOf st (.ref i) = obLst st[i]? := rfl
@[simp] theorem l3_lst {vs : List Val} : seqOf st (.lst vs) = some vs := rfl
@[simp] theorem l3_scr {vs : List Val} : seqOf st (.scr vs) = some vs := rfl
@[simp] theorem l3_tup {vs : List Val} : seqOf st (.tup vs) = some vs := rfl
@[simp] theorem l3_ref {i : Nat} : seqOf st (.ref i) = obLst st[i]? := rfl
@[simp] theorem ob_lst {vs : List Val} : obLst (some (.lst vs)) = some vs := rfl
@[simp] theorem small_of {n : Nat} : small n = true ↔ n ≤ 1000000 := by unfold small; simp
theorem small62_nat {n : Nat} (h : n ≤ 1000000) : small62 (n : Int) = true := by
  unfold small62
  rw [Nat.blt_eq]
  exact Nat.lt_of_le_of_lt (m := 1000000) (by omega) (by decide)
theorem small62_int {n : Int} (h0 : -1000000 ≤ n) (h : n ≤ 1000000) : small62 n = true := by
  unfold small62
  rw [Nat.blt_eq]
  exact Nat.lt_of_le_of_lt (m := 1000000) (by omega) (by decide)
theorem small62_lit {n : Nat} : small62 (no_index (OfNat.ofNat n) : Int) = Nat.blt n (2 ^ 62) := rfl
@[simp] theorem small62_0 : small62 0 = true := by decide
@[simp] theorem small62_1 : small62 1 = true := by decide
@[simp] theorem small62_n1 : small62 (-1) = true := by decide
@[simp] theorem x_eVar {i : Nat} : eVar i σ st = match σ[i]? with
  | some (some v) => .ok v st
  | _ => .no := rfl
@[simp] theorem x_eC {v : Val} : eC v σ st = .ok v st := rfl
@[simp] theorem x_eBin {k : Val → Val → Sto → Out Val} {a b : EI} : eBin k a b σ st = (a σ st).bind fun x st1 => (b σ st1).bind fun y st2 => k x y st2 := rfl
@[simp] theorem x_eUn {k : Val → Sto → Out Val} {a : EI} : eUn k a σ st = (a σ st).bind fun x st1 => k x st1 := rfl
@[simp] theorem x_bOf {f : EI} : bOf f σ st = (f σ st).bind fun v st => match v with
  | .bl b => .ok b st
  | _ => .no := rfl
@[simp] theorem x_bYes : bYes σ st = .ok true st := rfl
@[simp] theorem k_sub {i j : Int} : kSub (.int i) (.int j) st = .ok (.int (i - j)) st := rfl
@[simp] theorem k_lt {i j : Int} : kLt (.int i) (.int j) st = .ok (.bl (decide (i < j))) st := rfl
@[simp] theorem k_le {i j : Int} : kLe (.int i) (.int j) st = .ok (.bl (decide (i ≤ j))) st := rfl
@[simp] theorem k_gt {i j : Int} : kGt (.int i) (.int j) st = .ok (.bl (decide (j < i))) st := rfl
@[simp] theorem k_ge {i j : Int} : kGe (.int i) (.int j) st = .ok (.bl (decide (j ≤ i))) st := rfl
@[simp] theorem k_mul {i j : Int} : kMul (.int i) (.int j) st = if mulOk i j = true then .ok (.int (i * j)) st else .no := rfl
@[simp] theorem k_mod {i j : Int} : kMod (.int i) (.int j) st = if decide (j ≠ 0) = true then .ok (.int (i.fmod j)) st else .no := rfl
@[simp] theorem k_div {i j : Int} : kDiv (.int i) (.int j) st = if (decide (j ≠ 0) && !Builtin.divisionGoesByPylong i j) = true then .ok (.int (i.fdiv j)) st else .no := rfl
@[simp] theorem k_pow {i j : Int} : kPow (.int i) (.int j) st = if decide (0 ≤ j ∧ j ≤ 1000000 ∧ i.natAbs < 2 ^ 64) = true then .ok (.int (i ^ j.toNat)) st else .no := rfl
@[simp] theorem k_eq {x y : Val} : kEq x y st = match (vEq st x y).map .bl with
  | some v => .ok v st
  | none => .no := rfl
@[simp] theorem k_ne {x y : Val} : kNe x y st = match (vEq st x y).map fun b => .bl (!b) with
  | some v => .ok v st
  | none => .no := rfl
@[simp] theorem k_is {x : Val} : kIs x .non st = match (isNon x).map .bl with
  | some v => .ok v st
  | none => .no := rfl
@[simp] theorem k_isnot {x : Val} : kIsNot x .non st = match (isNon x).map fun b => .bl (!b) with
  | some v => .ok v st
  | none => .no := rfl
@[simp] theorem k_ix {x : Val} {i : Int} : kIx x (.int i) st = match (seqOf st x).bind fun vs => atI vs i with
  | some v => .ok v st
  | none => .no := rfl
@[simp] theorem k_addI {i j : Int} : kAdd (.int i) (.int j) st = .ok (.int (i + j)) st := rfl
@[simp] theorem k_addL {x : List Val} {y : Val} : kAdd (.lst x) y st = match (lstOf st y).bind fun us => if x.length + us.length ≤ 1000000 then some (.lst (x ++ us)) else none with
  | some v => .ok v st
  | none => .no := by cases y <;> rfl
@[simp] theorem k_addR {x : Nat} {y : Val} : kAdd (.ref x) y st = match (obLst st[x]?).bind fun vs => (lstOf st y).bind fun us => if vs.length + us.length ≤ 1000000 then some (.lst (vs ++ us)) else none with
  | some v => .ok v st
  | none => .no := by cases y <;> rfl
@[simp] theorem vEq_def {x y : Val} : vEq st x y = (toD st 12 x).bind fun d => (toD st 12 y).bind fun e => some (d.eqv e) := rfl
@[simp] theorem isNon_non : isNon .non = some true := rfl
@[simp] theorem isNon_int {i : Int} : isNon (.int i) = some false := rfl
@[simp] theorem isNon_bl {i : Bool} : isNon (.bl i) = some false := rfl
@[simp] theorem isNon_str {i : Str} : isNon (.str i) = some false := rfl
@[simp] theorem isNon_tup {i : List Val} : isNon (.tup i) = some false := rfl
@[simp] theorem isNon_lst {i : List Val} : isNon (.lst i) = some false := rfl
@[simp] theorem isNon_ref {i : Nat} : isNon (.ref i) = some false := rfl
@[simp] theorem isNon_ins {c : Str} {i : List (Str × Val)} : isNon (.ins c i) = some false := rfl
@[simp] theorem kNeg_int {i : Int} : kNeg (.int i) st = .ok (.int (-i)) st := rfl
@[simp] theorem k_len {v : Val} : kLen [v] st = match (seqOf st v).map fun vs => .int vs.length with
  | some v => .ok v st
  | none => .no := rfl
@[simp] theorem k_abs {i : Int} : kAbs [.int i] st = .ok (.int (if i < 0 then -i else i)) st := rfl
@[simp] theorem k_max2 {i j : Int} : kMax2 [.int i, .int j] st = .ok (.int (if j > i then j else i)) st := rfl
@[simp] theorem k_min2 {i j : Int} : kMin2 [.int i, .int j] st = .ok (.int (if j < i then j else i)) st := rfl
@[simp] theorem k_sum {v : Val} : kSum [v] st = match (listOf st v).bind fun vs => (intsOf vs).map fun ns => .int ns.sum with
  | some v => .ok v st
  | none => .no := rfl
@[simp] theorem k_all {v : Val} : kAll [v] st = match (listOf st v).bind fun vs => (blsOf vs).map fun ns => .bl (ns.all id) with
  | some v => .ok v st
  | none => .no := rfl
@[simp] theorem k_any {v : Val} : kAny [v] st = match (listOf st v).bind fun vs => (blsOf vs).map fun ns => .bl (ns.any id) with
  | some v => .ok v st
  | none => .no := rfl
@[simp] theorem k_isi {v : Val} {t : BT} : kIsi [v, .ty t] st = match (isi st v t).map .bl with
  | some v => .ok v st
  | none => .no := rfl
@[simp] theorem isi_non {t : BT} : isi st .non t = some false := rfl
@[simp] theorem isi_bl {t : BT} {b : Bool} : isi st (.bl b) t = some (decide (t = .bool) || decide (t = .int)) := rfl
@[simp] theorem isi_int {t : BT} {b : Int} : isi st (.int b) t = some (decide (t = .int)) := rfl
@[simp] theorem isi_str {t : BT} {b : Str} : isi st (.str b) t = some (decide (t = .str)) := rfl
@[simp] theorem isi_tup {t : BT} {b : List Val} : isi st (.tup b) t = some (decide (t = .tuple)) := rfl
@[simp] theorem isi_lst {t : BT} {b : List Val} : isi st (.lst b) t = some (decide (t = .list)) := rfl
@[simp] theorem isi_dct {t : BT} : isi st .dct t = some (decide (t = .dict)) := rfl
@[simp] theorem isi_ref {t : BT} {i : Nat} : isi st (.ref i) t = (obLst st[i]?).map fun _ => decide (t = .list) := rfl
@[simp] theorem tru_non : tru st .non = some false := rfl
@[simp] theorem tru_bl {b : Bool} : tru st (.bl b) = some b := rfl
@[simp] theorem tru_int {b : Int} : tru st (.int b) = some (b != 0) := rfl
@[simp] theorem tru_lst {b : List Val} : tru st (.lst b) = some (!b.isEmpty) := rfl
@[simp] theorem tru_tup {b : List Val} : tru st (.tup b) = some (!b.isEmpty) := rfl
@[simp] theorem tru_ref {i : Nat} : tru st (.ref i) = (obLst st[i]?).map fun vs => !vs.isEmpty := rfl
@[simp] theorem kSl_lst {vs : List Val} {lo hi : Option Int} : kSl (.lst vs) lo hi st = .ok (.lst (cutG vs lo hi)) st := rfl
@[simp] theorem kSl_scr {vs : List Val} {lo hi : Option Int} : kSl (.scr vs) lo hi st = .ok (.lst (cutG vs lo hi)) st := rfl
@[simp] theorem kSl_tup {vs : List Val} {lo hi : Option Int} : kSl (.tup vs) lo hi st = if HT.sIx vs.length 0 lo = 0 ∧ HT.sIx vs.length vs.length hi = vs.length then .no else .ok (.tup (cutG vs lo hi)) st := rfl
@[simp] theorem f_non : flat .non = true := by simp only [flat]
@[simp] theorem f_bl {b : Bool} : flat (.bl b) = true := by simp only [flat]
@[simp] theorem f_int {b : Int} : flat (.int b) = true := by simp only [flat]
@[simp] theorem f_str {b : Str} : flat (.str b) = true := by simp only [flat]
@[simp] theorem f_dct : flat .dct = true := by simp only [flat]
@[simp] theorem f_ty {t : BT} : flat (.ty t) = true := by simp only [flat]
@[simp] theorem f_gl {t : Str} : flat (.gl t) = true := by simp only [flat]
@[simp] theorem f_ref {i : Nat} : flat (.ref i) = false := by simp only [flat]
@[simp] theorem f_tup {vs : List Val} : flat (.tup vs) = flats vs := by simp only [flat]
@[simp] theorem f_lst {vs : List Val} : flat (.lst vs) = flats vs := by simp only [flat]
@[simp] theorem f_scr {vs : List Val} : flat (.scr vs) = flats vs := by simp only [flat]
@[simp] theorem f_ins {c : Str} {vs : List (Str × Val)} : flat (.ins c vs) = flatf vs := by simp only [flat]
@[simp] theorem fs_nil : flats [] = true := by simp only [flats]
@[simp] theorem fs_cons {v : Val} {vs : List Val} : flats (v :: vs) = (flat v && flats vs) := by simp only [flats]
theorem flats_all : ∀ (vs : List Val), flats vs = vs.all flat := by
  intro vs
  induction vs with
  | nil => simp
  | cons v vs ih => simp [ih]
@[simp] theorem flats_app {vs us : List Val} : flats (vs ++ us) = (flats vs && flats us) := by rw [flats_all, flats_all, flats_all, List.all_append]
end
theorem pure_rt {n : Nat} {f : SI} {ds : List Val} {v d : Val} {st : Sto} (h : f (ds.map some ++ List.replicate (n - ds.length) none) [] = .rt v st) (h2 : rd st 12 v = some d) : pure' (toF n f) ds = .ok d [] := by
  unfold pure' toF; rw [h]; simp [h2]
theorem pure_nx {n : Nat} {f : SI} {ds : List Val} {σ : Sg} {st : Sto} (h : f (ds.map some ++ List.replicate (n - ds.length) none) [] = .nx σ st) : pure' (toF n f) ds = .ok .non [] := by
  unfold pure' toF; rw [h]; simp [rd]
theorem pure_er {n : Nat} {f : SI} {ds : List Val} {σ : Sg} {st : Sto} {c : Str} (h : f (ds.map some ++ List.replicate (n - ds.length) none) [] = .er c σ st) : pure' (toF n f) ds = .er c [] := by
  unfold pure' toF; rw [h]
/-! data -/
section
variable {st : Sto} {n : Nat}
@[simp] theorem d_non : toD st (n + 1) .non = some .none := by simp only [toD]
@[simp] theorem d_bl {b : Bool} : toD st (n + 1) (.bl b) = some (.bool b) := by simp only [toD]
@[simp] theorem d_int {b : Int} : toD st (n + 1) (.int b) = some (.int b) := by simp only [toD]
@[simp] theorem d_str {b : Str} : toD st (n + 1) (.str b) = if PyData.strOk b = true then some (.str b) else none := by simp only [toD]
@[simp] theorem d_tup {vs : List Val} : toD st (n + 1) (.tup vs) = (toDs st n vs).map .tuple := by simp only [toD]
@[simp] theorem d_lst {vs : List Val} : toD st (n + 1) (.lst vs) = (toDs st n vs).map .list := by simp only [toD]
@[simp] theorem d_scr {vs : List Val} : toD st (n + 1) (.scr vs) = (toDs st n vs).map .list := by simp only [toD]
@[simp] theorem d_ref {i : Nat} : toD st (n + 1) (.ref i) = (obLst st[i]?).bind fun vs => (toDs st n vs).map .list := by
  simp only [toD]
  cases e : st[i]? with
  | none => rfl
  | some o => cases o <;> rfl
@[simp] theorem ds_nil : toDs st n [] = some [] := by cases n <;> simp only [toDs]
@[simp] theorem ds_cons {v : Val} {vs : List Val} : toDs st (n + 1) (v :: vs) = match toD st n v, toDs st (n + 1) vs with
    | some d, some ds => some (d :: ds)
    | _, _ => none := by simp only [toDs] <;> rfl
@[simp] theorem q_int {a b : Int} : PyData.eqv (.int a) (.int b) = (a == b) := by simp only [PyData.eqv]
@[simp] theorem q_bool {a b : Bool} : PyData.eqv (.bool a) (.bool b) = (a == b) := by simp only [PyData.eqv]
@[simp] theorem q_str {a b : Str} : PyData.eqv (.str a) (.str b) = (a == b) := by simp only [PyData.eqv]
@[simp] theorem q_tup {a b : List PyData} : PyData.eqv (.tuple a) (.tuple b) = PyData.eqvAll a b := by simp only [PyData.eqv]
@[simp] theorem q_lst {a b : List PyData} : PyData.eqv (.list a) (.list b) = PyData.eqvAll a b := by simp only [PyData.eqv]
@[simp] theorem q_non : PyData.eqv .none .none = true := by simp only [PyData.eqv]
@[simp] theorem q_nt {a : List PyData} : PyData.eqv .none (.tuple a) = false := by simp only [PyData.eqv]
@[simp] theorem q_tn {a : List PyData} : PyData.eqv (.tuple a) .none = false := by simp only [PyData.eqv]
@[simp] theorem q_tl {a b : List PyData} : PyData.eqv (.tuple a) (.list b) = false := by simp only [PyData.eqv]
@[simp] theorem q_lt' {a b : List PyData} : PyData.eqv (.list a) (.tuple b) = false := by simp only [PyData.eqv]
@[simp] theorem q_nil : PyData.eqvAll [] [] = true := by simp only [PyData.eqvAll]
@[simp] theorem q_cons {x y : PyData} {a b : List PyData} : PyData.eqvAll (x :: a) (y :: b) = (PyData.eqv x y && PyData.eqvAll a b) := by simp only [PyData.eqvAll]
@[simp] theorem q_nc {y : PyData} {b : List PyData} : PyData.eqvAll [] (y :: b) = false := by simp only [PyData.eqvAll]
@[simp] theorem q_cn {y : PyData} {b : List PyData} : PyData.eqvAll (y :: b) [] = false := by simp only [PyData.eqvAll]
@[simp] theorem r_non : rd st (n + 1) .non = some .non := by simp only [rd]
@[simp] theorem r_bl {b : Bool} : rd st (n + 1) (.bl b) = some (.bl b) := by simp only [rd]
@[simp] theorem r_int {b : Int} : rd st (n + 1) (.int b) = some (.int b) := by simp only [rd]
@[simp] theorem r_str {b : Str} : rd st (n + 1) (.str b) = some (.str b) := by simp only [rd]
@[simp] theorem r_tup {vs : List Val} : rd st (n + 1) (.tup vs) = (rds st n vs).map .tup := by simp only [rd]
@[simp] theorem r_lst {vs : List Val} : rd st (n + 1) (.lst vs) = (rds st n vs).map .lst := by simp only [rd]
@[simp] theorem r_ins {c : Str} {vs : List (Str × Val)} : rd st (n + 1) (.ins c vs) = (rdf st n vs).map (.ins c) := by simp only [rd]
@[simp] theorem r_ref' {i : Nat} : rd st (n + 1) (.ref i) = match st[i]? with
    | some (.lst vs) => (rds st n vs).map .lst
    | some (.ins c fs) => (rdf st n fs).map (.ins c)
    | none => none := by simp only [rd] <;> rfl
theorem r_ref {i : Nat} {vs : List Val} (h : st[i]? = some (.lst vs)) : rd st (n + 1) (.ref i) = (rds st n vs).map .lst := by simp only [rd, h]
@[simp] theorem rs_nil : rds st n [] = some [] := by cases n <;> simp only [rds]
@[simp] theorem rs_cons {v : Val} {vs : List Val} : rds st (n + 1) (v :: vs) = match rd st n v, rds st (n + 1) vs with
    | some d, some ds => some (d :: ds)
    | _, _ => none := by simp only [rds] <;> rfl
end
/-! indices -/
theorem at_lt {α : Type} {xs : List α} {i : Nat} {x : α} (h : xs[i]? = some x) : atI xs (i : Int) = some x := by
  have hi := (List.getElem?_eq_some_iff.mp h).1
  unfold atI ixN
  rw [if_pos (by omega), if_pos (by omega)]
  simpa using h
@[simp] theorem at_zero {α : Type} {x : α} {xs : List α} : atI (x :: xs) 0 = some x := at_lt (i := 0) rfl
@[simp] theorem at_one {α : Type} {x y : α} {xs : List α} : atI (x :: y :: xs) 1 = some y := at_lt (i := 1) rfl
@[simp] theorem at_two {α : Type} {x y z : α} {xs : List α} : atI (x :: y :: z :: xs) 2 = some z := at_lt (i := 2) rfl
@[simp] theorem at_three {α : Type} {x y z u : α} {xs : List α} : atI (x :: y :: z :: u :: xs) 3 = some u := at_lt (i := 3) rfl
end
end Bd

namespace Bd
noncomputable section
open PySem L2
section
variable {X : Cx} {ξ : Exo} {W : WX} {e a b c : Expr} {f fa fb fc : EI} {pos : Pos}
/-! ### list(x), xs * k, xs[::-1], three at once -/
def kList : List Val → Sto → Out Val := kL fun xs st => match xs with
  | [v] => (seqOf st v).map .lst
  | _ => none
def kListN : List Val → Sto → Out Val := fun xs st => match xs with
  | [v] => match seqOf st v with
    | some vs => .ok (.ref st.length) (st ++ [.lst vs])
    | none => .no
  | _ => .no
theorem kList_bears : BearsL X ξ W (fun xs H Q => ∃ p ys, xs = [.ref p] ∧ (SqL X.K H p ys ∨ SqT X.K H p ys) ∧ ∀ l, H l = none → Q (.ref l) (upd H l (.lst ys))) kList := by
  intro B S ρ st σ H xs vs Q R rx h
  obtain ⟨z, e, h0⟩ := kL_some h
  split at e
  · obtain ⟨us, e1, rfl⟩ := Option.map_eq_some_iff.mp e
    obtain ⟨w, rfl, rw'⟩ := one_rvs rx
    obtain ⟨p, ws, rfl, hp, rr⟩ := seqOf_get R rw' e1
    refine ⟨p, ws, rfl, hp, fun n hn => ?_⟩
    obtain ⟨R', s'⟩ := R.fix hn (.lst ws)
    exact h0.at s' R' _ (.lst upd_same (rr.mono s'.s s'.r))
  · cases e
theorem kListN_bears : BearsL X ξ W (fun xs H Q => ∃ p ys, xs = [.ref p] ∧ (SqL X.K H p ys ∨ SqT X.K H p ys) ∧ ∀ l, H l = none → Q (.ref l) (upd H l (.lst ys))) kListN := by
  intro B S ρ st σ H xs vs Q R rx h
  unfold kListN at h
  split at h
  · obtain ⟨w, rfl, rw'⟩ := one_rvs rx
    split at h
    · rename_i us e1
      obtain ⟨p, ws, rfl, hp, rr⟩ := seqOf_get R rw' e1
      refine ⟨p, ws, rfl, hp, fun n hn => ?_⟩
      obtain ⟨R', s'⟩ := R.new hn rr
      exact h.at s' R' _ (.ref (by rw [← R.len]; simp))
    · exact h.elim
  · exact h.elim
/-- xs * k -/
abbrev kRep := kOpt fun x y st => match y with
  | .int k => (lstOf st x).bind fun vs => if -1000000 ≤ k ∧ k ≤ 1000000 ∧ vs.length * k.toNat ≤ 1000000 then some (.lst (List.replicate k.toNat vs).flatten) else none
  | _ => none
theorem RVs.rep {G : Gt} {S : Hp} {ρ : List Addr} {vs : List Val} {ws : List V} (r : RVs G S ρ vs ws) : ∀ n : Nat, RVs G S ρ (List.replicate n vs).flatten (List.replicate n ws).flatten
  | 0 => .nil
  | n + 1 => by rw [List.replicate_succ, List.replicate_succ, List.flatten_cons, List.flatten_cons]; exact r.append (r.rep n)
theorem kRep_bears : Bears2 X ξ W rRep kRep := by
  intro B S ρ st σ H x y v w Q R rx ry h
  obtain ⟨z, e0, h0⟩ := kOpt_some h
  split at e0
  · rename_i k
    cases ry
    obtain ⟨vs, e1, e⟩ := Option.bind_eq_some_iff.mp e0
    split at e
    · rename_i hz
      cases e
      obtain ⟨p, ws, rfl, hp, r1⟩ := lstOf_get R rx e1
      refine ⟨p, k, ws, rfl, rfl, hp, by omega, by omega, ?_, fun n hn => ?_⟩
      · rw [← r1.length, sizeLine_eq]; omega
      · obtain ⟨R', s'⟩ := R.fix hn (.lst (List.replicate k.toNat ws).flatten)
        exact h0.at s' R' _ (.lst upd_same ((r1.rep _).mono s'.s s'.r))
    · cases e
  · cases e0
theorem i_rep (ha : PE X a (TI (gt X ξ) W fa)) (hb : PE X b (TI (gt X ξ) W fb)) : PE X (.BinOp a .Mult b pos) (TI (gt X ξ) W (eBin kRep fa fb)) := i_bin op_rep kRep_bears ha hb
/-- xs[::-1] -/
def eRev (f : EI) : EI := fun σ st => (f σ st).bind fun v st1 => match listOf st1 v with
  | some vs => .ok (.lst vs.reverse) st1
  | none => .no
theorem i_rev {k : Nat} {p1 p2 p3 : Pos} (he : PE X e (TI (gt X ξ) W f)) : PE X (.Subscript e (.Slice none none (some (.UnaryOp .USub (.Constant (.int 1) k p1) p2)) p3) pos) (TI (gt X ξ) W (eRev f)) := by
  refine (pe_revL he).weak fun σ H Q ⟨B, S, ρ, σI, st, R, L, h⟩ => ?_
  refine ⟨B, S, ρ, σI, st, R, L, After.imp (After.bind h) fun v S1 ρ1 st1 H1 s1 R1 h1 w r => ?_⟩
  split at h1
  · rename_i vs e1
    obtain ⟨p, ws, rfl, hp, rr⟩ := listOf_get R1 r e1
    refine ⟨p, ws, rfl, hp, fun n hn => ?_⟩
    obtain ⟨R', s'⟩ := R1.fix hn (.lst ws.reverse)
    exact h1.at s' R' _ (.lst upd_same (rr.reverse.mono s'.s s'.r))
  · exact h1.elim
/-- range(a, b, c) -/
def sm3 (lo hi c : Int) : Bool := Nat.ble lo.natAbs 1000000 && (Nat.ble hi.natAbs 1000000 && (Nat.ble c.natAbs 1000000 && !(c == 0)))
theorem sm3_to {lo hi c : Int} (h : sm3 lo hi c = true) : (-1000000 ≤ lo ∧ lo ≤ 1000000) ∧ (-1000000 ≤ hi ∧ hi ≤ 1000000) ∧ (-1000000 ≤ c ∧ c ≤ 1000000) ∧ c ≠ 0 := by
  unfold sm3 at h
  simp at h
  omega
theorem sm3_of {lo hi c : Int} (h : (-1000000 ≤ lo ∧ lo ≤ 1000000) ∧ (-1000000 ≤ hi ∧ hi ≤ 1000000) ∧ (-1000000 ≤ c ∧ c ≤ 1000000) ∧ c ≠ 0) : sm3 lo hi c = true := by
  unfold sm3
  simp
  omega
theorem size3 {lo hi c : Int} (h : (-1000000 ≤ lo ∧ lo ≤ 1000000) ∧ (-1000000 ≤ hi ∧ hi ≤ 1000000) ∧ (-1000000 ≤ c ∧ c ≤ 1000000) ∧ c ≠ 0) : 0 ≤ Builtin.Range.rangeSize lo hi c ∧ Builtin.Range.rangeSize lo hi c ≤ 3000000 := by
  unfold Builtin.Range.rangeSize
  have k : ∀ a b : Int, 0 ≤ a → 0 < b → 0 ≤ a / b ∧ a / b ≤ a := fun a b ha hb => ⟨Int.ediv_nonneg ha (by omega), Int.ediv_le_self _ ha⟩
  split
  · split
    · have := k (hi - lo - 1) c (by omega) (by omega); omega
    · omega
  · split
    · have := k (lo - hi - 1) (-c) (by omega) (by omega); omega
    · omega
theorem small3 {lo hi c : Int} (h : (-1000000 ≤ lo ∧ lo ≤ 1000000) ∧ (-1000000 ≤ hi ∧ hi ≤ 1000000) ∧ (-1000000 ≤ c ∧ c ≤ 1000000) ∧ c ≠ 0) : Builtin.Range.small lo hi c = true := by
  have z := size3 h
  unfold Builtin.Range.small
  generalize Builtin.Range.rangeSize lo hi c = N at z
  simp only [Builtin.Range.rangeFitsLong, Bool.and_eq_true, Bool.or_eq_true, decide_eq_true_eq, beq_iff_eq]
  refine ⟨⟨⟨⟨?_, ?_⟩, ?_⟩, ?_⟩, .inr ?_⟩
  · omega
  · omega
  · omega
  · omega
  · split <;> simp only [Bool.and_eq_true, decide_eq_true_eq] <;> omega
def rangeC (lo c : Int) (n : Nat) : List Val := (List.range n).map fun (k : Nat) => Val.int (lo + (k : Int) * c)
theorem rangeC_get {lo c : Int} {n i : Nat} (h : i < n) : (rangeC lo c n)[i]? = some (.int (lo + (i : Int) * c)) := by
  unfold rangeC
  rw [List.getElem?_map, List.getElem?_range h]; rfl
theorem rangeC_length {lo c : Int} {n : Nat} : (rangeC lo c n).length = n := by unfold rangeC; simp
def iRange3 (f g k : EI) : II := fun σ st => (f σ st).bind fun a st1 => (g σ st1).bind fun b st2 => (k σ st2).bind fun c st3 => match a, b, c with
  | .int lo, .int hi, .int c => if sm3 lo hi c = true then .ok (rangeC lo c (Builtin.Range.rangeSize lo hi c).toNat, fun _ => True) st3 else .no
  | _, _, _ => .no
theorem it_range3 {tg : Expr} {p pos : Pos} (hg : Gl X "range") (hm : X.mg "range" = none) (ha : PE X a (TI (gt X ξ) W fa)) (hb : PE X b (TI (gt X ξ) W fb)) (hc : PE X c (TI (gt X ξ) W fc)) (hs : starEach [a, b, c] X.env = (false, eval a X.env) :: starEach [b, c] X.env := by rfl) (hs2 : starEach [b, c] X.env = (false, eval b X.env) :: starEach [c] X.env := by rfl) (hs3 : starEach [c] X.env = [(false, eval c X.env)] := by rfl)
    (hpl : (backTo pos (starEach [b, c] X.env)).any (·.1) = false := by rfl) : PI X tg (.Call (.Name "range" p) [a, b, c] [] pos) (TIt (gt X ξ) W (iRange3 fa fb fc)) := by
  refine (pi_range3 hg hm (pa_cons ha (pa_cons hb (pa_cons hc pa_nil (by rw [hs3]; rfl)) (by rw [hs2])) (by rw [hs])) hs hpl).weak fun σ H Rr ⟨B, S, ρ, σI, st, R, L, h⟩ => ?_
  refine ⟨B, S, ρ, σI, st, R, L, (After.bind h).imp fun x S1 ρ1 st1 H1 s1 R1 h1 w r1 => ?_⟩
  refine ⟨B, S1, ρ1, σI, st1, R1, L.mono s1.s s1.r, h1.bind.imp fun y S2 ρ2 st2 H2 s2 R2 h2 w2 r2 => ?_⟩
  refine ⟨B, S2, ρ2, σI, st2, R2, (L.mono s1.s s1.r).mono s2.s s2.r, h2.bind.imp fun z S3 ρ3 st3 H3 s3 R3 h3 w3 r3 => ?_⟩
  split at h3
  · rename_i lo hi k
    split at h3
    · rename_i hz
      have r1' := (r1.mono s2.s s2.r).mono s3.s s3.r
      have r2' := r2.mono s3.s s3.r
      cases r1'; cases r2'; cases r3
      have z1 := sm3_to hz
      have z2 := size3 z1
      refine ⟨lo, hi, k, (Builtin.Range.rangeSize lo hi k).toNat, rfl, ⟨z1.2.2.2, by omega, small3 z1, by omega⟩, ?_⟩
      have h4 := h3.here R3
      dsimp only at h4
      refine h4 (Itc lo k (Builtin.Range.rangeSize lo hi k).toNat) (fun _ => True) (YFn fun i => .int (lo + (i : Nat) * k)) (by rw [rangeC_length]; exact walk_rangeC) (fun _ _ _ _ _ _ _ => True.intro) (fun i S4 ρ4 st4 H4 y H5 hi3 s4 R4 _ yy => ?_)
      rw [rangeC_length] at hi3
      obtain ⟨e4, e5⟩ := yy
      rw [rangeC_get hi3]
      exact yields_at R4 e4 (by rw [e5]; exact .int _)
    · exact h3.elim
  · exact h3.elim
end
@[simp] theorem x_eRev {f : EI} {σ : Sg} {st : Sto} : eRev f σ st = (f σ st).bind fun v st1 => match listOf st1 v with
  | some vs => .ok (.lst vs.reverse) st1
  | none => .no := rfl
@[simp] theorem x_iRange3 {f g k : EI} {σ : Sg} {st : Sto} : iRange3 f g k σ st = (f σ st).bind fun a st1 => (g σ st1).bind fun b st2 => (k σ st2).bind fun c st3 => match a, b, c with
  | .int lo, .int hi, .int c => if sm3 lo hi c = true then Out.ok (α := List Val × (Sto → Prop)) (rangeC lo c (Builtin.Range.rangeSize lo hi c).toNat, fun _ => True) st3 else .no
  | _, _, _ => .no := rfl
@[simp] theorem k_sl_ref {i : Nat} {lo hi : Option Int} {st : Sto} : kSl (.ref i) lo hi st = match obLst st[i]? with
  | some vs => .ok (.lst (cutG vs lo hi)) st
  | none => .no := rfl
@[simp] theorem k_rep {vs : List Val} {k : Int} {st : Sto} : kRep (.lst vs) (.int k) st = if -1000000 ≤ k ∧ k ≤ 1000000 ∧ vs.length * k.toNat ≤ 1000000 then .ok (.lst (List.replicate k.toNat vs).flatten) st else .no := by
  show (match (if -1000000 ≤ k ∧ k ≤ 1000000 ∧ vs.length * k.toNat ≤ 1000000 then some (Val.lst (List.replicate k.toNat vs).flatten) else none) with
    | some v => Out.ok v st
    | none => .no) = _
  split <;> simp_all
@[simp] theorem k_list {v : Val} {st : Sto} : kList [v] st = match (seqOf st v).map Val.lst with
  | some v => .ok v st
  | none => .no := rfl
@[simp] theorem k_listN {v : Val} {st : Sto} : kListN [v] st = match seqOf st v with
  | some vs => .ok (.ref st.length) (st ++ [.lst vs])
  | none => .no := rfl
end
end Bd

namespace Bd
noncomputable section
open PySem L2
/-! ### defs with defaults -/
theorem fn_okD {P : Program} {w : World} {K : PySem.W.Frag} {mg : Str → Option Value} {base : Heap} {x qual : Str} {st : Stmt} {dvs : List V} {f : Addr} {fd : FuncData} {N ps : List Str} {k : Nat} {n : Nat} {F : SI}
    (D : FunD K x qual (defArgs st) (defBody st) (defScope st) dvs [] f fd) (S : FnScope N ps (defScope st)) (hn : ps.length = n)
    (body : ∀ (X : Cx) (W : WX) (cdv : Value) (A : Around) (outer : List Env) (s : Shared) (H : Hp) (E : XK), X = cxOf (L2N.CX P w) P w K mg base N qual (defScope st) f cdv A outer s H E → L2N.Takes X W → Room k X.A → PSs X (defBody st) (TS' ⟨K, mg, none⟩ W F)) :
    FnOk P w K mg base (L2N.CX P w) (k + 1) f fd ps (spI ⟨K, mg, none⟩ n (toF N.length F)) := by
  refine D.ok S (fun vs H Q E h => h.1.trans hn.symm) (fun cdv A outer s H vs Q E hr h => ?_)
  refine ⟨_, body _ (fun cls d _ H' => E cls d H') cdv A outer s H E rfl (L2N.takes_of rfl rfl rfl rfl) hr, ?_⟩
  obtain ⟨_, B, S0, ρ, st0, ds, R, r, h⟩ := h
  refine ⟨B, S0, ρ, _, st0, R, start_rel r N, ?_⟩
  unfold toF at h
  revert h
  cases F (ds.map some ++ List.replicate (N.length - ds.length) none) st0 with
  | nx σ1 st1 => exact fun h S' ρ' H' σ' s R' _ => h S' ρ' H' _ s R' .non
  | rt v st1 => exact fun h S' ρ' H' w s R' r' => h S' ρ' H' w s R' r'
  | er c σ1 st1 => exact fun h S' ρ' H' σ' C s R' _ m => h S' ρ' H' C s R' m
  | bk _ _ => exact fun h => h.elim
  | ct _ _ => exact fun h => h.elim
  | no => exact fun h => h.elim
/-- a def called without its last values -/
def KnD (P : Program) (w : World) (K : PySem.W.Frag) (mg : Str → Option Value) (base : Heap) (x : Str) (k n : Nat) (dvs : List V) (F : FI) : Prop := ∃ ds, Vals dvs ds ∧ Kn P w K mg base x k n ds F
section
variable {X : Cx} {W : WX} {e : Expr} {es : List Expr} {r : AI} {F : FI} {j k n : Nat} {dvs : List V} {dV : List Val} {x : Str} {p pos : Pos}
theorem i_knX (h : KnD X.prog X.w X.K X.mg X.base x k n dvs F) (hdv : DefV dV dvs) (tk : L2N.Takes X W) (hr : Room j X.A) (hj : k ≤ j) (hg : Gl X x) (ha : PA X (e :: es) (TL (gt X none) W r)) (hal : AI.len r (es.length + 1)) (hlen : es.length + 1 + dV.length = n)
    (hdb : (x == ("__debug__" : Str)) = false := by decide) (he : starEach (e :: es) X.env = (false, eval e X.env) :: starEach es X.env := by rfl) (hpl : (backTo pos (starEach es X.env)).any (·.1) = false := by rfl) :
    PE X (.Call (.Name x p) (e :: es) [] pos) (TI (gt X none) W (eCallP F dV r)) := by
  obtain ⟨ds, hd, h⟩ := h
  exact i_knD h hd hdv tk hr hj hg ha hal hlen hdb he hpl
theorem dv_int (i : Int) : DefV [.int i] [.int i] := fun _ _ _ => .cons (.int i) .nil
end
theorem funD_mk {K : PySem.W.Frag} {x qual : Str} {st : Stmt} {f T : Addr} {oc oc2 : Value} {od an od2 : Option Addr} {osl osl2 : Array (Option Value)} {kV doc pm cdv ct : Value} {i : Int} {t : Tok} {m : Nat}
    (l : K.lookup f = some ⟨oc, od, .func (PySem.W.fnOf x qual (defArgs st) (defBody st) (defScope st) (.ref T) kV doc pm an cdv ct), osl⟩) (c : PySem.W.codeIn K cdv qual = true) (k : PySem.W.keepIn K (.ref f) = true)
    (d : K.lookup T = some ⟨oc2, od2, .seq #[.int i t] m, osl2⟩) : FunD K x qual (defArgs st) (defBody st) (defScope st) [.int i] [] f (PySem.W.fnOf x qual (defArgs st) (defBody st) (defScope st) (.ref T) kV doc pm an cdv ct) :=
  ⟨⟨oc, od, _, kV, doc, pm, an, cdv, ct, osl, rfl, l, c, .inr ⟨by simp, T, _, [.int i t], m, rfl, d, rfl, .cons ⟨_, rfl⟩ .nil⟩, .inl rfl⟩, k⟩
theorem full_binds {K : PySem.W.Frag} {fd : FuncData} {ps : List Str} {v : V} (h : ∃ ds, Vals (([v] : List V).drop 1) ds ∧ Binds K fd ps ds) : Binds K fd ps [] := by
  obtain ⟨ds, hv, hb⟩ := h
  cases hv
  exact hb
end
end Bd

namespace Bd
noncomputable section
open PySem L2
open PyProof.Rows (envOfC)
theorem takesN {X : Cx} : L2N.Takes X (fun _ _ _ _ => False) := fun _ _ x => by
  obtain ⟨_, _, _, _, _, _, _, _, _, _, _, _, _, _, _, _, z⟩ := x
  exact z.elim
/-! ### values without a caught exception -/
mutual
def exf : Val → Bool
  | .tup vs => exfs vs
  | .lst vs => exfs vs
  | .scr vs => exfs vs
  | .ins _ fs => exff fs
  | .ex _ => false
  | _ => true
def exfs : List Val → Bool
  | [] => true
  | v :: vs => exf v && exfs vs
def exff : List (Str × Val) → Bool
  | [] => true
  | (_, v) :: vs => exf v && exff vs
end
def exfo : Ob → Bool
  | .lst vs => exfs vs
  | .ins _ fs => exff fs
def exst (st : Sto) : Bool := st.all exfo
def exsl (σ : Sg) : Bool := σ.all fun o => match o with
  | some v => exf v
  | none => true
section
variable {K : PySem.W.Frag} {mg : Str → Option Value} {ξ ξ' : Exo} {B S : Hp} {ρ : List Addr}
mutual
theorem RV.chill : ∀ {v : Val} {w : V}, RV ⟨K, mg, ξ⟩ S ρ v w → exf v = true → RV ⟨K, mg, ξ'⟩ S ρ v w
  | _, _, .non, _ => .non
  | _, _, .bl b, _ => .bl b
  | _, _, .int i, _ => .int i
  | _, _, .str x, _ => .str x
  | _, _, .tup e r, h => .tup e (RVs.chill r (by simpa only [exf] using h))
  | _, _, .lst e r, h => .lst e (RVs.chill r (by simpa only [exf] using h))
  | _, _, .scr e r, h => .scr e (RVs.chill r (by simpa only [exf] using h))
  | _, _, .dct e, _ => .dct e
  | _, _, .ref e, _ => .ref e
  | _, _, .ty t, _ => .ty t
  | _, _, .ex t, h => by simp only [exf] at h; cases h
  | _, _, .gl e r, _ => .gl (G := ⟨K, mg, ξ'⟩) e r
  | _, _, .ins e c r, h => .ins (G := ⟨K, mg, ξ'⟩) e c (RFs.chill r (by simpa only [exf] using h))
theorem RVs.chill : ∀ {vs : List Val} {ws : List V}, RVs ⟨K, mg, ξ⟩ S ρ vs ws → exfs vs = true → RVs ⟨K, mg, ξ'⟩ S ρ vs ws
  | _, _, .nil, _ => .nil
  | _, _, .cons a b, h => by simp only [exfs, Bool.and_eq_true] at h; exact .cons (RV.chill a h.1) (RVs.chill b h.2)
theorem RFs.chill : ∀ {vs : List (Str × Val)} {ws : List (Str × V)}, RFs ⟨K, mg, ξ⟩ S ρ vs ws → exff vs = true → RFs ⟨K, mg, ξ'⟩ S ρ vs ws
  | _, _, .nil, _ => .nil
  | _, _, .cons a b, h => by simp only [exff, Bool.and_eq_true] at h; exact .cons (RV.chill a h.1) (RFs.chill b h.2)
end
mutual
theorem RV.heat : ∀ {v : Val} {w : V}, RV ⟨K, mg, none⟩ S ρ v w → RV ⟨K, mg, ξ'⟩ S ρ v w
  | _, _, .non => .non
  | _, _, .bl b => .bl b
  | _, _, .int i => .int i
  | _, _, .str x => .str x
  | _, _, .tup e r => .tup e (RVs.heat r)
  | _, _, .lst e r => .lst e (RVs.heat r)
  | _, _, .scr e r => .scr e (RVs.heat r)
  | _, _, .dct e => .dct e
  | _, _, .ref e => .ref e
  | _, _, .ty t => .ty t
  | _, _, .ex t => nomatch t
  | _, _, .gl e r => .gl (G := ⟨K, mg, ξ'⟩) e r
  | _, _, .ins e c r => .ins (G := ⟨K, mg, ξ'⟩) e c (RFs.heat r)
theorem RVs.heat : ∀ {vs : List Val} {ws : List V}, RVs ⟨K, mg, none⟩ S ρ vs ws → RVs ⟨K, mg, ξ'⟩ S ρ vs ws
  | _, _, .nil => .nil
  | _, _, .cons a b => .cons (RV.heat a) (RVs.heat b)
theorem RFs.heat : ∀ {vs : List (Str × Val)} {ws : List (Str × V)}, RFs ⟨K, mg, none⟩ S ρ vs ws → RFs ⟨K, mg, ξ'⟩ S ρ vs ws
  | _, _, .nil => .nil
  | _, _, .cons a b => .cons (RV.heat a) (RFs.heat b)
end
theorem ObR.chill {H : Hp} {p : Addr} {o : Ob} (h : ObR ⟨K, mg, ξ⟩ S ρ H p o) (e : exfo o = true) : ObR ⟨K, mg, ξ'⟩ S ρ H p o := by
  cases o with
  | lst vs => obtain ⟨ws, a, b⟩ := h; exact ⟨ws, a, b.chill e⟩
  | ins c fs => obtain ⟨C, dx, ws, a, b, d⟩ := h; exact ⟨C, dx, ws, a, b, d.chill e⟩
theorem ObR.heat {H : Hp} {p : Addr} {o : Ob} (h : ObR ⟨K, mg, none⟩ S ρ H p o) : ObR ⟨K, mg, ξ'⟩ S ρ H p o := by
  cases o with
  | lst vs => obtain ⟨ws, a, b⟩ := h; exact ⟨ws, a, b.heat⟩
  | ins c fs => obtain ⟨C, dx, ws, a, b, d⟩ := h; exact ⟨C, dx, ws, a, b, d.heat⟩
theorem HR.chill {st : Sto} {H : Hp} (R : HR ⟨K, mg, ξ⟩ B S ρ st H) (e : exst st = true) : HR ⟨K, mg, ξ'⟩ B S ρ st H :=
  ⟨R.b, R.s, R.nd, R.len, R.fr, fun i p o a b => (R.ob i p o a b).chill (List.all_eq_true.mp e o (List.mem_of_getElem? b))⟩
theorem HR.heat {st : Sto} {H : Hp} (R : HR ⟨K, mg, none⟩ B S ρ st H) : HR ⟨K, mg, ξ'⟩ B S ρ st H :=
  ⟨R.b, R.s, R.nd, R.len, R.fr, fun i p o a b => (R.ob i p o a b).heat⟩
theorem SlR.chill {σI : Sg} {σ : St} (L : SlR ⟨K, mg, ξ⟩ S ρ σI σ) (e : exsl σI = true) : SlR ⟨K, mg, ξ'⟩ S ρ σI σ :=
  ⟨L.1, fun i v h => let ⟨w, a, b⟩ := L.2 i v h; ⟨w, a, b.chill (List.all_eq_true.mp e _ (List.mem_of_getElem? h))⟩⟩
theorem SlR.heat {σI : Sg} {σ : St} (L : SlR ⟨K, mg, none⟩ S ρ σI σ) : SlR ⟨K, mg, ξ'⟩ S ρ σI σ :=
  ⟨L.1, fun i v h => let ⟨w, a, b⟩ := L.2 i v h; ⟨w, a, b.heat⟩⟩
end
/-! ### try .. except X (as n) -/
def putEx : Option Nat → Str → Sg → Sg
  | some i, c, σ => σ.set i (some (.ex c))
  | none, _, σ => σ
def unEx : Option Nat → Sg → Sg
  | some i, σ => σ.set i none
  | none, σ => σ
def backEx (i : Option Nat) : SOut → SOut
  | .nx σ st => if (exsl (unEx i σ) && exst st) = true then .nx (unEx i σ) st else .no
  | .bk σ st => if (exsl (unEx i σ) && exst st) = true then .bk (unEx i σ) st else .no
  | .ct σ st => if (exsl (unEx i σ) && exst st) = true then .ct (unEx i σ) st else .no
  | .rt v st => if (exf v && exst st) = true then .rt v st else .no
  | _ => .no
def sTry (oks : List Str) (i : Option Nat) (f g : SI) : SI := fun σ st => match f σ st with
  | .er c σ1 st1 => if oks.contains c = true then backEx i (g (putEx i c σ1) st1) else .no
  | r => r
section
variable {X : Cx} {W : WX} {x n : Str} {c0 : Value} {i : Nat} {oks : List Str} {body suite : List Stmt} {b₀ : Stmt} {np pos pos' : Pos} {f g : SI}
theorem ands {a b : Bool} (h : (a && b) = true) : a = true ∧ b = true := by simpa using h
theorem s_try_as (hs : X.stack = X.env :: X.outer) (hf : X.env.frame = some X.env.locals) (hN : X.N.Nodup) (hi : X.N[i]? = some n) (hln : X.env.kindOf n = some .local) (hc : Names X x c0) (tk : L2N.Takes X W)
    (ho : ∀ c C, oks.contains c = true → X.mg c = some (.ref C) → PySem.W.exmOne X.K (.ref C) c0 = some true)
    (hb : ∀ (W' : WX) (pn : List (Addr × Obj)) (xe : Value → Shared → Prop), L2N.Takes (X.tr pn xe) W' → PassesOwn (model X.prog X.w) X.A X.env xe → PSs (X.tr pn xe) body (TS' (gt X none) W' f))
    (hsu : ∀ (a : Addr) (oe : Obj) (C : Addr) (pn : List (Addr × Obj)) (c : Str), L2N.Zn (.ref C) none oe → (∃ vs, oe.data = .fields vs) → X.mg c = some (.ref C) → oks.contains c = true → PSs (X.suite a ((a, oe) :: pn)) (b₀ :: suite) (TS' ⟨X.K, X.mg, some (a, c)⟩ W0 g)) :
    PS X (.Try body [.ExceptHandler (some (.Name x np)) (some n) (b₀ :: suite) pos'] [] [] pos) (TS' (gt X none) W (sTry oks (some i) f g)) := by
  refine (L2N.ps_try_as (i := i) (tb := fun W' => TS' (gt X none) W' f) (ts := fun a cls d D σ H => ∃ C c, cls = Value.ref C ∧ d = none ∧ X.mg c = some (.ref C) ∧ oks.contains c = true ∧ TS' ⟨X.K, X.mg, some (a, c)⟩ W0 g D σ H) hs hf hN hi hln hc tk hb
    (fun a oe cls d pn hz hfl => ⟨fun pins s σ H D I ⟨C, c, e1, e2, m, o, h⟩ => ?_⟩)).weak fun D σ H ⟨B, S, ρ, σI, st, R, L, h⟩ => ⟨B, S, ρ, σI, st, R, L, ?_⟩
  · subst e1 e2
    exact (hsu a oe C pn c hz hfl m o).run pins s σ H D I h
  unfold sTry at h
  revert h
  cases f σI st with
  | nx σ1 st1 => exact fun h => h
  | bk σ1 st1 => exact fun h => h
  | ct σ1 st1 => exact fun h => h
  | rt v st1 => exact fun h => h
  | no => exact fun h => h
  | er c σ1 st1 =>
    intro h S' ρ' H' σ' C s' R' L' m
    dsimp only at h
    by_cases hk : oks.contains c = true
    · rw [if_pos hk] at h
      refine ⟨true, ho c C hk m, fun _ a na => ⟨C, c, rfl, rfl, m, hk, B, S', ρ', putEx (some i) c σ1, st1, R'.heat, L'.heat.set (.ex rfl) i, ?_⟩, fun z => by cases z⟩
      have h := h.step s'
      revert h
      unfold backEx
      cases g (putEx (some i) c σ1) st1 with
      | nx σ2 st2 =>
        dsimp only
        intro h
        split at h
        · rename_i hh
          obtain ⟨h1, h2⟩ := ands hh
          exact fun S2 ρ2 H2 σ2' s2 R2 L2' => h S2 ρ2 H2 _ s2 (R2.chill h2) ((L2'.setN i).chill h1)
        · exact h.elim
      | bk σ2 st2 =>
        dsimp only
        intro h
        split at h
        · rename_i hh
          obtain ⟨h1, h2⟩ := ands hh
          exact fun S2 ρ2 H2 σ2' s2 R2 L2' => h S2 ρ2 H2 _ s2 (R2.chill h2) ((L2'.setN i).chill h1)
        · exact h.elim
      | ct σ2 st2 =>
        dsimp only
        intro h
        split at h
        · rename_i hh
          obtain ⟨h1, h2⟩ := ands hh
          exact fun S2 ρ2 H2 σ2' s2 R2 L2' => h S2 ρ2 H2 _ s2 (R2.chill h2) ((L2'.setN i).chill h1)
        · exact h.elim
      | rt v st2 =>
        dsimp only
        intro h
        split at h
        · rename_i hh
          obtain ⟨h1, h2⟩ := ands hh
          exact fun S2 ρ2 H2 w s2 R2 rv => h S2 ρ2 H2 w s2 (R2.chill h2) (rv.chill h1)
        · exact h.elim
      | er _ _ _ => exact fun h => h.elim
      | no => exact fun h => h.elim
    · rw [if_neg hk] at h; exact h.elim
theorem s_try_only (hs : X.stack = X.env :: X.outer) (hf : X.env.frame = some X.env.locals) (hc : Names X x c0) (tk : L2N.Takes X W)
    (ho : ∀ c C, oks.contains c = true → X.mg c = some (.ref C) → PySem.W.exmOne X.K (.ref C) c0 = some true)
    (hb : ∀ (W' : WX) (pn : List (Addr × Obj)) (xe : Value → Shared → Prop), L2N.Takes (X.tr pn xe) W' → PassesOwn (model X.prog X.w) X.A X.env xe → PSs (X.tr pn xe) body (TS' (gt X none) W' f))
    (hsu : ∀ (a : Addr) (oe : Obj) (C : Addr) (pn : List (Addr × Obj)) (c : Str), L2N.Zn (.ref C) none oe → (∃ vs, oe.data = .fields vs) → X.mg c = some (.ref C) → oks.contains c = true → PSs (X.suite a ((a, oe) :: pn)) (b₀ :: suite) (TS' ⟨X.K, X.mg, some (a, c)⟩ W0 g)) :
    PS X (.Try body [.ExceptHandler (some (.Name x np)) none (b₀ :: suite) pos'] [] [] pos) (TS' (gt X none) W (sTry oks none f g)) := by
  refine (L2N.ps_try_many (l := [(c0, fun a cls d D σ H => ∃ C c, cls = Value.ref C ∧ d = none ∧ X.mg c = some (.ref C) ∧ oks.contains c = true ∧ TS' ⟨X.K, X.mg, some (a, c)⟩ W0 g D σ H)]) (tb := fun W' => TS' (gt X none) W' f) hs hf tk hb
    (.cons hc (fun a oe cls d pn hz hfl => ⟨fun pins s σ H D I ⟨C, c, e1, e2, m, o, h⟩ => ?_⟩) .nil)).weak fun D σ H ⟨B, S, ρ, σI, st, R, L, h⟩ => ⟨B, S, ρ, σI, st, R, L, ?_⟩
  · subst e1 e2
    exact (hsu a oe C pn c hz hfl m o).run pins s σ H D I h
  unfold sTry at h
  revert h
  cases f σI st with
  | nx σ1 st1 => exact fun h => h
  | bk σ1 st1 => exact fun h => h
  | ct σ1 st1 => exact fun h => h
  | rt v st1 => exact fun h => h
  | no => exact fun h => h
  | er c σ1 st1 =>
    intro h S' ρ' H' σ' C s' R' L' m
    dsimp only at h
    by_cases hk : oks.contains c = true
    · rw [if_pos hk] at h
      refine ⟨true, ho c C hk m, fun _ a na => ⟨C, c, rfl, rfl, m, hk, B, S', ρ', putEx none c σ1, st1, R'.heat, L'.heat, ?_⟩, fun z => by cases z⟩
      have h := h.step s'
      revert h
      unfold backEx
      cases g (putEx none c σ1) st1 with
      | nx σ2 st2 =>
        dsimp only
        intro h
        split at h
        · rename_i hh
          obtain ⟨h1, h2⟩ := ands hh
          exact fun S2 ρ2 H2 σ2' s2 R2 L2' => h S2 ρ2 H2 _ s2 (R2.chill h2) (L2'.chill h1)
        · exact h.elim
      | bk σ2 st2 =>
        dsimp only
        intro h
        split at h
        · rename_i hh
          obtain ⟨h1, h2⟩ := ands hh
          exact fun S2 ρ2 H2 σ2' s2 R2 L2' => h S2 ρ2 H2 _ s2 (R2.chill h2) (L2'.chill h1)
        · exact h.elim
      | ct σ2 st2 =>
        dsimp only
        intro h
        split at h
        · rename_i hh
          obtain ⟨h1, h2⟩ := ands hh
          exact fun S2 ρ2 H2 σ2' s2 R2 L2' => h S2 ρ2 H2 _ s2 (R2.chill h2) (L2'.chill h1)
        · exact h.elim
      | rt v st2 =>
        dsimp only
        intro h
        split at h
        · rename_i hh
          obtain ⟨h1, h2⟩ := ands hh
          exact fun S2 ρ2 H2 w s2 R2 rv => h S2 ρ2 H2 w s2 (R2.chill h2) (rv.chill h1)
        · exact h.elim
      | er _ _ _ => exact fun h => h.elim
      | no => exact fun h => h.elim
    · rw [if_neg hk] at h; exact h.elim
end
end
end Bd

namespace Bd
noncomputable section
open PySem L2
open PyProof.Rows (envOfC)
/-! ### defs that are called while an exception is handled -/
structure FnX (P : Program) (w : World) (K : PySem.W.Frag) (mg : Str → Option Value) (base : Heap) (CX : CXT) (k : Nat) (f : Addr) (fd : FuncData) (ps : List Str) (sp : Addr × Obj → Sp) : Prop where
  len : ∀ p vs H Q E, sp p vs H Q E → vs.length = ps.length
  go : ∀ (A : Around) (outer : List Env) (s : Shared) (H : Hp) (args : Args) (us : List Value) (vs : List V) (Q : VK) (E : XK) (p : Addr × Obj), L2H.RoomH k A → L2H.Hot1 A p → L2H.PinOk outer H s p → Env0 P w K mg base A outer s H → BindsTo s fd args (ps.zip us) →
    Vals vs us → sp p vs H Q E → codeAny (model P w) A (.call (.ref f) args) (CR CX outer P w H s Q E) s
theorem fnx_of {CX : CXT} {P : Program} {w : World} {K : PySem.W.Frag} {mg : Str → Option Value} {base : Heap} {k : Nat} {x qual : Str} {st : Stmt} {f : Addr} {fd : FuncData} {N ps : List Str} {sp : Addr × Obj → Sp}
    (D : Fun K x qual st f fd) (S : FnScope N ps (defScope st)) (len : ∀ p vs H Q E, sp p vs H Q E → vs.length = ps.length)
    (hb : ∀ (cdv : Value) (A : Around) (outer : List Env) (s : Shared) (H : Hp) (vs : List V) (Q : VK) (E : XK) (p : Addr × Obj), L2H.Hot1 A p → L2H.RoomH k (A.deeper (envOfC qual (defScope st) s.heap.objs.size f cdv)) → sp p vs H Q E →
      ∃ t, PSs (L2H.cxH CX P w K mg base N qual (defScope st) f cdv A outer s H E p) (defBody st) t ∧ t { nx := fun _ H' => Q .non H', rt := Q } (L2.start N vs) H) :
    FnX P w K mg base CX (k + 1) f fd ps sp := by
  obtain ⟨_, _, _, _, _, _, cdv, _, _, rfl, lk, hcd⟩ := D.ex
  refine ⟨len, fun A outer s H args us vs Q E p hr hot pin e0 bd rl q => ?_⟩
  have hl := len _ _ _ _ _ q
  have inK : K.In s.heap := e0.mod.kin.keeps fun b o z => (e0.bs b o z).1
  have room : s.heap.NoLimit := e0.mod.nolimit.keeps fun b o z => (e0.bs b o z).1
  have kinds : ∀ y ∈ ps.zip us, (defScope st).names.lookup y.1 = some .local ∨ ((defScope st).names.lookup y.1 = some .cell ∧ ((cellsFrom (s.heap.objs.size + 1) (defScope st).names []).lookup y.1).isSome = true) := by
    rintro ⟨y, v⟩ hy
    exact (S.par y (List.of_mem_zip hy).1).imp id fun z => ⟨z, PySem.W.cellsFrom_some _ _ _ (.inl z)⟩
  refine codeAny_call_function hr.depth (inK _ _ lk) rfl S.co S.gen rfl (PySem.W.codeRec_of inK hcd) (bd _ _ _ _ (wpAny_newFunctionEnv_cells S.kind kinds fun env ee s1 ic => ?_))
  subst ee
  refine ⟨room.keeps ic.toInCall.keep, codeAny_func ?_⟩
  obtain ⟨t, ht, hq⟩ := hb cdv A outer s H vs Q E p hot (hr.deeper _) q
  refine wpAny_mono (ht.run [] s1 (L2.start N vs) H _ (L2H.inv_startH S pin e0 hl rl ic) hq) (fun fl s2 hs => ?_) fun _ _ z => z
  cases fl with
  | ret u => obtain ⟨v, _, H2, J, rv, qv⟩ := hs; exact ⟨v, H2, J.os, J.bare, J.base, J.hok, rv, qv⟩
  | next => obtain ⟨_, H2, J, qv⟩ := hs; exact ⟨V.non, H2, J.os, J.bare, J.base, J.hok, rfl, qv⟩
  | brk => exact hs.elim fun _ z => z.elim fun _ y => y.2.elim
  | cont => exact hs.elim fun _ z => z.elim fun _ y => y.2.elim
/-- its promise: the handled exception p may be among what it is given -/
def spX (K : PySem.W.Frag) (mg : Str → Option Value) (oks : List Str) (n : Nat) (F : FI) (p : Addr × Obj) : Sp := fun vs H Q E => ∃ C c, L2N.Zn (.ref C) none p.2 ∧ mg c = some (.ref C) ∧ oks.contains c = true ∧ spI ⟨K, mg, some (p.1, c)⟩ n F vs H Q E
theorem fnx_ok {P : Program} {w : World} {K : PySem.W.Frag} {mg : Str → Option Value} {base : Heap} {x qual : Str} {st : Stmt} {f : Addr} {fd : FuncData} {N ps : List Str} {k : Nat} {n : Nat} {F : SI} {oks : List Str}
    (D : Fun K x qual st f fd) (S : FnScope N ps (defScope st)) (hn : ps.length = n)
    (body : ∀ (X : Cx) (W : WX) (p : Addr × Obj) (C : Addr) (c : Str) (cdv : Value) (A : Around) (outer : List Env) (s : Shared) (H : Hp) (E : XK), X = L2H.cxH (L2N.CX P w) P w K mg base N qual (defScope st) f cdv A outer s H E p → p ∈ X.pn → L2H.Hot1 X.A p →
      L2N.Zn (.ref C) none p.2 → mg c = some (.ref C) → oks.contains c = true → L2H.RoomH k X.A → PSs X (defBody st) (TS' ⟨K, mg, some (p.1, c)⟩ W F)) :
    FnX P w K mg base (L2N.CX P w) (k + 1) f fd ps (spX K mg oks n (toF N.length F)) := by
  refine fnx_of D S (fun p vs H Q E ⟨_, _, _, _, _, h⟩ => h.1.trans hn.symm) (fun cdv A outer s H vs Q E p hot hr h => ?_)
  obtain ⟨C, c, zn, hm, ho, h⟩ := h
  refine ⟨_, body _ (fun cls d _ H' => E cls d H') p C c cdv A outer s H E rfl (List.mem_singleton.mpr rfl) hot zn hm ho hr, ?_⟩
  obtain ⟨_, B, S0, ρ, st0, ds, R, r, h⟩ := h
  refine ⟨B, S0, ρ, _, st0, R, start_rel r N, ?_⟩
  unfold toF at h
  revert h
  cases F (ds.map some ++ List.replicate (N.length - ds.length) none) st0 with
  | nx σ1 st1 => exact fun h S' ρ' H' σ' s R' _ => h S' ρ' H' _ s R' .non
  | rt v st1 => exact fun h S' ρ' H' w s R' r' => h S' ρ' H' w s R' r'
  | er c σ1 st1 => exact fun h S' ρ' H' σ' C s R' _ m => h S' ρ' H' C s R' m
  | bk _ _ => exact fun h => h.elim
  | ct _ _ => exact fun h => h.elim
  | no => exact fun h => h.elim
/-- what is known of such a def -/
def KnX (P : Program) (w : World) (K : PySem.W.Frag) (mg : Str → Option Value) (base : Heap) (x : Str) (k n : Nat) (oks : List Str) (F : FI) : Prop :=
  ∃ f fd ps, ps.length = n ∧ FnX P w K mg base (L2N.CX P w) k f fd ps (spX K mg oks n F) ∧ mg x = some (.ref f) ∧ PySem.W.keepIn K (.ref f) = true ∧ Binds K fd ps []
section
variable {X : Cx} {e : Expr} {es : List Expr} {r : AI} {F : FI} {j k n : Nat} {x c : Str} {C : Addr} {p : Addr × Obj} {q pos : Pos} {oks : List Str}
theorem i_knH (h : KnX X.prog X.w X.K X.mg X.base x k n oks F) (hp : p ∈ X.pn) (hot : L2H.Hot1 X.A p) (zn : L2N.Zn (.ref C) none p.2) (hc : X.mg c = some (.ref C)) (ho : oks.contains c = true) (hr : L2H.RoomH j X.A) (hj : k ≤ j) (hg : Gl X x) (ha : PA X (e :: es) (TL (gt X (some (p.1, c))) W0 r)) (hal : AI.len r (es.length + 1)) (hlen : es.length + 1 = n)
    (hdb : (x == ("__debug__" : Str)) = false := by decide) (he : starEach (e :: es) X.env = (false, eval e X.env) :: starEach es X.env := by rfl) (hpl : (backTo pos (starEach es X.env)).any (·.1) = false := by rfl) :
    PE X (.Call (.Name x q) (e :: es) [] pos) (TI (gt X (some (p.1, c))) W0 (eCallP F [] r)) := by
  obtain ⟨f, fd, ps, _, D, hm, hk, hb⟩ := h
  refine ⟨fun pins s σ H Q I h0 => ?_⟩
  have h1 : tCallSD (spI (gt X (some (p.1, c))) n F) [] (fun σ cls d H => W0 cls d σ H) (TL (gt X (some (p.1, c))) W0 r) σ H Q := callP_imp (dvs := []) (fun _ _ _ => .nil) (by simpa using hlen) hal h0
  refine wpAny_Call_Name_kw (ld_glob I hg hm ?_ hdb)
  refine PySem.W.callWith_K (h₀ := X.base) I.ok.mod.kin hk (thn (ha.run pos pins s σ H _ I h1) fun us s1 ⟨vs, H1, I1, rl, q1⟩ => ⟨I1.kIn, ?_⟩) he hpl
  dsimp only at q1
  rw [List.append_nil] at q1
  have hx : spX X.K X.mg oks n F p vs H1 Q (fun cls d H => W0 cls d σ H) := ⟨C, c, zn, hc, ho, q1⟩
  have hl : us.length = ps.length := by rw [← rl.length]; exact D.len _ _ _ _ _ hx
  have b := hb s1 us I1.kIn (by rw [List.append_nil]; exact hl)
  rw [List.append_nil] at b
  have P1 := I1.pin p (List.mem_append_left _ hp)
  have pin : L2H.PinOk X.stack H1 s1 p := ⟨P1.1, P1.2.1, fun hm => (List.mem_cons.mp (I1.stkSub p.1 hm)).elim P1.2.2.1 P1.2.2.2.1, P1.2.2.2.2⟩
  refine wpAny_call (codeAny_mono (D.go X.A X.stack s1 H1 ⟨us, []⟩ us vs Q _ p (hr.mono hj) hot pin I1.env0 b rl hx) fun r2 s2 h2 => ?_)
  cases r2 with
  | error e2 =>
    obtain ⟨_, _, _, _, _, _, _, _, _, _, _, _, z⟩ := h2
    exact z.elim
  | ok fl =>
    cases fl with
    | ret u => exact I1.after h2
    | _ => exact h2.elim
end
/-! ### isinstance of the exception that is handled -/
structure ETab (K : PySem.W.Frag) (mg : Str → Option Value) (cs xs : List Str) : Prop where
  row : ∀ c ∈ cs, ∃ C, mg c = some (.ref C) ∧ ExcC K C ∧ PySem.W.kitOne K (.ref C) (.type "ValueError") = some true ∧ ∀ x ∈ xs, ∃ Cx, mg x = some (.ref Cx) ∧ PySem.W.kitOne K (.ref C) (.ref Cx) = some (x == c || x == "BeadError")
def kIsE (xs : List Str) : List Val → Sto → Out Val := kL fun vs _ => match vs with
  | [.ex c, .gl x] => if xs.contains x = true then some (.bl (x == c || x == "BeadError")) else none
  | [.ex _, .ty .verr] => some (.bl true)
  | _ => none
section
variable {X : Cx} {W : WX} {e e2 : Expr} {fa fb : EI} {c : Str} {C : Addr} {p : Addr × Obj} {q pos : Pos} {cs xs : List Str}
theorem call_isX (hp : p ∈ X.pn) (E : ExcC X.K C) (hz : Zc (.ref C) none p.2) (hf : ∃ vs, p.2.data = .fields vs) : CallR X (.builtin "isinstance") (rIsE X.K C p.1) := by
  intro pins s σ H vs us Q I r h
  obtain ⟨t, tv, b, rfl, ht, e, q⟩ := h
  cases r with
  | cons r1 r2 =>
    cases r2 with
    | cons r2 r3 =>
      cases r3
      cases r1
      have z1 := ht _ r2
      subst z1
      have hget := (I.pin p (List.mem_append_left _ hp)).1
      obtain ⟨fs, hv⟩ := hf
      have J : PySem.W.InstAt s.heap p.1 p.2 C none := by
        obtain ⟨pa, oc, od, oda, osl⟩ := p
        obtain ⟨h1, h2⟩ := hz
        dsimp only at h1 h2 hv
        subst h1 h2 hv
        exact ⟨hget, rfl, rfl, trivial⟩
      exact PySem.W.kia_one (PySem.W.handS_kitx_exc E.hg E.hk E.hs E.hd E.ha E.hn E.ht E.hm) I.kIn J e (fun z => nomatch z) fun tk => ⟨.bl b, H, I.kept (t' := tk) fun _ _ z => z, rfl, q⟩
theorem relv_cls {w : V} {D : Addr} (r : RelV w (.ref D)) : ∀ u, RelV w u → u = .ref D := by
  cases w with
  | ref a =>
    intro u hu
    have h1 : Value.ref D = Value.ref a := r
    have h2 : u = Value.ref a := hu
    rw [h2, h1]
  | non => cases (show Value.ref D = Value.none from r)
  | bl b => cases (show Value.ref D = Value.bool b from r)
  | int i => obtain ⟨t, z⟩ := (show ∃ t, Value.ref D = Value.int i t from r); cases z
  | str i => obtain ⟨t, z⟩ := (show ∃ t, Value.ref D = Value.str i t from r); cases z
  | byt i => obtain ⟨t, z⟩ := (show ∃ t, Value.ref D = Value.bytes i t from r); cases z
  | flt i => obtain ⟨t, z⟩ := (show ∃ t, Value.ref D = Value.float i t from r); cases z
  | ty n => cases (show Value.ref D = Value.type n from r)
theorem i_isE {XS : List Str} (T : ETab X.K X.mg cs XS) (hsub : xs.all (fun x => XS.contains x) = true) (hp : p ∈ X.pn) (hz : L2N.Zn (.ref C) none p.2) (hf : ∃ vs, p.2.data = .fields vs) (hc : X.mg c = some (.ref C)) (ho : cs.contains c = true) (hm : X.mg "isinstance" = none) (ha : PE X e (TI (gt X (some (p.1, c))) W fa)) (hb : PE X e2 (TI (gt X (some (p.1, c))) W fb))
    (hg : Gl X "isinstance" := by rfl) (he : starEach (e :: [e2]) X.env = (false, eval e X.env) :: starEach [e2] X.env := by rfl) (he2 : starEach [e2] X.env = (false, eval e2 X.env) :: starEach [] X.env := by rfl) (hpl : (backTo pos (starEach [e2] X.env)).any (·.1) = false := by rfl) :
    PE X (.Call (.Name "isinstance" q) [e, e2] [] pos) (TI (gt X (some (p.1, c))) W (eB (kIsE xs) (aCons fa (aCons fb aNil)))) := by
  obtain ⟨C', m1, hC, k1, k2⟩ := T.row c (List.contains_iff_mem.mp ho)
  have e1 : C' = C := by rw [hc] at m1; cases m1; rfl
  subst e1
  refine i_callB (k := kIsE xs) (rr := rIsE X.K C' p.1) ?_ (call_isX hp hC hz.zc hf) hg hm (by decide +kernel) (a_cons ha (a_cons hb a_nil he2) he) (by decide) (by decide) he hpl
  intro B S ρ st σ H ys vs Q R rx h
  obtain ⟨z, e0, h0⟩ := kL_some h
  split at e0
  · rename_i c1 x
    split at e0
    · rename_i hh
      cases e0
      obtain ⟨w1, w2, rfl, r1, r2⟩ := two_rvs rx
      cases r1 with
      | ex he =>
        cases he
        cases r2 with
        | gl hg2 rl =>
          have hx : x ∈ XS := List.contains_iff_mem.mp (List.all_eq_true.mp hsub x (List.contains_iff_mem.mp hh))
          obtain ⟨Cx, m2, k3⟩ := k2 x hx
          have e2 := (show X.mg x = some (.ref Cx) from m2).symm.trans (show X.mg x = _ from hg2)
          cases e2
          exact ⟨w2, .ref Cx, _, rfl, relv_cls rl, k3, h0.here R _ (.bl _)⟩
    · cases e0
  · cases e0
    obtain ⟨w1, w2, rfl, r1, r2⟩ := two_rvs rx
    cases r1 with
    | ex he =>
      cases he
      cases r2
      exact ⟨_, .type "ValueError", _, rfl, fun u hu => hu, k1, h0.here R _ (.bl _)⟩
  · cases e0
theorem kitOne_of {K : PySem.W.Frag} {t : Value} {D : Addr} {b : Bool} (hd : PySem.W.hasDictIn K D = true) (ht : PySem.W.typeIn K (.ref D) = some (.type "type")) (hs : PySem.W.subIn K t (.ref D) = some b) (h1 : t = .ref D → b = true) : PySem.W.kitOne K t (.ref D) = some b := by
  unfold PySem.W.kitOne
  by_cases h : (t == Value.ref D) = true
  · rw [if_pos h, h1 (beq_iff_eq.mp h)]
  · rw [if_neg h]
    obtain ⟨cd, hc, _⟩ := PySem.W.any_some hd
    have e2 : ((PySem.W.clsIn K D).isSome && PySem.W.typeIn K (.ref D) == some (.type "type")) = true := by rw [hc, ht] <;> rfl
    show (if ((PySem.W.clsIn K D).isSome && PySem.W.typeIn K (.ref D) == some (.type "type")) = true then PySem.W.subIn K t (.ref D) else none) = some b
    rw [if_pos e2, hs]
end
end
end Bd

namespace Bd
noncomputable section
open PySem L2 PySem.W
/-! ### [e for x in range(n)] while an exception is handled -/
/-- the block's context, with the handled exception -/
abbrev blkP (X : Cx) (s : Shared) (H : Hp) (scope : Scope) (ce : Env) (fp : List Addr) (p : Addr × Obj) : Cx := { X.blk s H scope ce fp with pn := [p] }
theorem toP {X : Cx} {s s' : Shared} {H H' : Hp} {scope : Scope} {ce : Env} {fp : List Addr} {p : Addr × Obj} {σ : L2.St} (I : L2.Inv (X.blk s H scope ce fp) [] σ H' s')
    (h : s'.heap.get? p.1 = some p.2 ∧ H' p.1 = none ∧ p.1 ≠ ce.locals ∧ p.1 ∉ frs X.stack ∧ ∀ v, p.2.data ≠ .cell v) : L2.Inv (blkP X s H scope ce fp p) [] σ H' s' :=
  ⟨⟨I.ok.mod, I.ok.kind, I.ok.glob, I.ok.blt, I.ok.above, I.ok.inj, I.ok.has, I.ok.cab, I.ok.hd, I.ok.frames, I.ok.stk, I.ok.exf, I.ok.bs, I.ok.bsz, I.ok.noex, I.ok.exfs, I.ok.funs, I.ok.frf⟩, I.os, I.bare, I.base, I.loc, I.cell, I.free, I.freeC,
    fun q hq => by
      have e : q = p := by simpa using (show q ∈ [p] ++ ([] : List (Addr × Obj)) from hq)
      rw [e]; exact h, I.hok, I.len⟩
theorem lc_hot {X : Cx} {pins : List (Addr × Obj)} {s : Shared} {σ : L2.St} {H : Hp} {Q : VK} {elt tg iter : Expr} {ifs : List Expr} {scope : Scope} {own : List (Str × Nat)} {pos pos' : Pos} {wi : L2.TI} {g : TG} {tt : TT} {te : TE} {p : Addr × Obj}
    (hp : p ∈ X.pn) (hot : L2H.Hot1 X.A p) (I : L2.Inv X pins σ H s) (hi : L2H.PIH X tg iter wi) (ok : BlkOk X.N X.env.scope scope own) (hN : X.N.Nodup)
    (hg : ∀ (s : Shared) (H : Hp) (C : Addr) (cl : List (Str × Addr)) (fp : List Addr), PG (blkP X s H scope (compEnvC scope cl C X.env) fp p) tg g)
    (ht : ∀ (s : Shared) (H : Hp) (C : Addr) (cl : List (Str × Addr)) (fp : List Addr), PTs (blkP X s H scope (compEnvC scope cl C X.env) fp p) ifs tt)
    (he : ∀ (s : Shared) (H : Hp) (C : Addr) (cl : List (Str × Addr)) (fp : List Addr), PE (blkP X s H scope (compEnvC scope cl C X.env) fp p) elt te) (hs : ∀ x, foldedSetIterable iter X.env x = pure x)
    (h : tLc wi g tt te (own.map (·.2)) σ H Q) {Qf : Value → Shared → Prop}
    (hRR : ∀ D C s' m H', L2.Inv X pins σ H' s' → Q (.ref D) H' → s'.heap.Ns C m → FpOk X pins H' C → compPost (model X.prog X.w) X.A X.xe none Qf (.ref D) C (.ok .next) s') :
    wpAny (model X.prog X.w) X.A (comprehension (.ListComp elt [⟨tg, iter, ifs, 0⟩] scope pos) scope X.env pos' (newList []) false (eval iter X.env) none) Qf X.xe s := by
  have frees : ∀ y ∈ scope.names, y.2 = .free → ∃ c, X.env.cells.lookup y.1 = some c := by
    intro y hy e
    exact (ok.free y hy e).elim (fun z => I.ok.has _ (.inl z)) fun z => I.ok.has _ (.inr z)
  refine wpAny_comprehension_free (use := none) rfl hs (closure_ok frees) ok.kind (fun y hy e => by rw [ok.uniq y hy, e]) (thn (hi.run pins s σ H _ I h) fun xv s1 hx => thn hx fun itv s2 h2 => ?_)
  obtain ⟨it, fp, tn, J, H2, rfl, I2, T, st2, f2, q⟩ := h2
  refine wpAny_newObj_type (newEnv_comp ?_) (by show 0 ≤ sizeLine; decide)
  generalize hD : s2.heap.objs.size = D
  obtain ⟨W, ⟨m0, w0⟩, turn⟩ := q D (I2.hok.fresh (Nat.le_of_eq hD))
  generalize hs3 : ({ s2 with heap := s2.heap.push { cls := .type "list", data := .seq ([] : List Value).toArray } } : Shared) = s3
  have h3 : s3.heap = s2.heap.push { cls := .type "list", data := .seq ([] : List Value).toArray } := by rw [← hs3]
  have I3 : L2.Inv X pins σ (upd H2 D (.lst [])) s3 := by
    subst hs3
    subst hD
    exact I2.laid (t' := s2.toks) (fun b o e => Heap.get?_push_of_some _ e) (Nat.le_refl _) ⟨Nat.zero_le _, [], 0, .nil, Heap.get?_push_size _ rfl⟩
  have f3 : ∀ b ∈ fp, FpOk X pins (upd H2 D (.lst [])) b ∧ b < s3.heap.objs.size := by
    intro b hb
    obtain ⟨o, e, _⟩ := T.obj _ _ st2 b hb
    have hlt := Heap.lt_size e
    refine ⟨⟨?_, (f2 b hb).2⟩, by rw [h3, Heap.size_push]; exact Nat.lt_succ_of_lt hlt⟩
    rw [upd_ne (by rw [← hD]; exact Nat.ne_of_lt hlt)]
    exact (f2 b hb).1
  have st3 : tn 0 s3.heap := T.keep _ _ _ st2 fun b _ o e => by rw [h3]; exact Heap.get?_push_of_some _ e
  have P3 := I3.pin p (List.mem_append_left _ hp)
  have pst : p.1 ∉ frs X.stack := fun hm => (List.mem_cons.mp (I3.stkSub p.1 hm)).elim P3.2.2.1 P3.2.2.2.1
  have I4 := block_start I3 ok hN f3
  have pg := hg s3 (upd H2 D (.lst [])) s3.heap.objs.size (cellsFrom (s3.heap.objs.size + 1) scope.names (cloFrom X.env.cells scope.names [])) fp
  have pt := ht s3 (upd H2 D (.lst [])) s3.heap.objs.size (cellsFrom (s3.heap.objs.size + 1) scope.names (cloFrom X.env.cells scope.names [])) fp
  have pe := he s3 (upd H2 D (.lst [])) s3.heap.objs.size (cellsFrom (s3.heap.objs.size + 1) scope.names (cloFrom X.env.cells scope.names [])) fp
  show codeAny _ _ (.compStart (.ListComp elt [⟨tg, iter, ifs, 0⟩] scope pos) 0 (.ref it) (.ref D) (compEnvC scope (cellsFrom (s3.heap.objs.size + 1) scope.names (cloFrom X.env.cells scope.names [])) s3.heap.objs.size X.env))
    (compPost (model X.prog X.w) X.A X.xe none Qf (.ref D) s3.heap.objs.size) { s3 with heap := pushCells (s3.heap.push { cls := .type "dict", data := .dict #[] }) scope.names }
  have nfp : ∀ b ∈ fp, (upd H2 D (.lst [])) b = none := fun b hb => (f3 b hb).1.1
  generalize hce : compEnvC scope (cellsFrom (s3.heap.objs.size + 1) scope.names (cloFrom X.env.cells scope.names [])) s3.heap.objs.size X.env = ce at I4 pg pt pe ⊢
  have cL : ce.locals = s3.heap.objs.size := by rw [← hce]; rfl
  generalize hH3 : upd H2 D (.lst []) = H3 at I3 I4 pg pt pe w0 nfp f3 P3
  generalize hs4 : ({ s3 with heap := pushCells (s3.heap.push { cls := .type "dict", data := .dict #[] }) scope.names } : Shared) = s4 at I4 ⊢
  have kp4 : ∀ b o, s3.heap.get? b = some o → s4.heap.get? b = some o := fun b o e => by rw [← hs4]; exact pushCells_keeps _ _ _ _ (Heap.get?_push_of_some _ e)
  have st4 : tn 0 s4.heap := T.keep _ _ _ st3 fun b _ o e => kp4 b o e
  have pL : p.1 ≠ ce.locals := by rw [cL]; exact Nat.ne_of_lt (Heap.lt_size P3.1)
  have I4 : L2.Inv (blkP X s3 H3 scope ce fp p) [] (wipe σ (own.map (·.2))) H3 s4 := toP I4 ⟨kp4 _ _ P3.1, P3.2.1, pL, pst, P3.2.2.2.2⟩
  have hc : L2H.HotC (blkP X s3 H3 scope ce fp p) := ⟨p, hot, List.mem_singleton.mpr rfl⟩
  have npf : ∀ b ∈ fp, p.1 ≠ b := fun b hb => (f3 b hb).1.2.2.2.2.2 p (List.mem_append_left _ hp)
  have stat : ∀ {σ' : L2.St} {H' : Hp} {s' : Shared}, L2.Inv (blkP X s3 H3 scope ce fp p) [] σ' H' s' → (∀ b ∈ fp, H' b = none) → ∀ b ∈ fp, FpOk (blkP X s3 H3 scope ce fp p) [] H' b := fun {σ' H' s'} I' hn b hb =>
    ⟨hn b hb, (I'.ok.exf b hb).1, I'.ok.exfs b hb, .inl hb, fun x c e => (I'.ok.exf b hb).2 x c e, fun q hq => by
      have e : q = p := by simpa using (show q ∈ [p] ++ ([] : List (Addr × Obj)) from hq)
      rw [e]; exact npf b hb⟩
  have loop : codeAny (model X.prog X.w) X.A (.compLoop (.ListComp elt [⟨tg, iter, ifs, 0⟩] scope pos) 0 (.ref it) (.ref D) ce) (compPost (model X.prog X.w) X.A X.xe none Qf (.ref D) s3.heap.objs.size) s4 := by
    refine compLoop_any (fun n s' => ∃ i H', L2.Inv (blkP X s3 H3 scope ce fp p) [] (wipe σ (own.map (·.2))) H' s' ∧ tn i s'.heap ∧ (∀ b ∈ fp, H' b = none) ∧ W i n H') ?_ m0 ⟨0, H3, I4, st4, nfp, w0⟩
    rintro n s5 ⟨i, H5, I5, st5, n5, w5⟩
    rcases turn i n H5 w5 with ⟨stop, qq⟩ | ⟨go, Nx, hNx, step⟩
    · refine thnF (T.done (blkP X s3 H3 scope ce fp p) rfl rfl rfl hc i [] s5 _ H5 (fun _ _ => False) I5 (stat I5 n5) st5 stop) fun r s6 ⟨hr, I6⟩ => ?_
      subst hr
      have I7 : L2.Inv X pins σ H5 s6 := I3.call' (ch := fp) I6.os I6.base I6.hok I6.bare fun b hb => ⟨(f3 b hb).1.2.2.2.1, (f3 b hb).1.2.1, (f3 b hb).1.2.2.2.2.1, (f3 b hb).1.2.2.2.2.2⟩
      have nC : H5 s3.heap.objs.size = none := by
        rw [← cL]; exact I6.free
      obtain ⟨m, hn, _⟩ := I6.loc
      have hn : s6.heap.Ns ce.locals m := hn
      rw [cL] at hn
      exact hRR D s3.heap.objs.size s6 m H5 I7 qq hn (I3.fpOk (Nat.le_refl _) nC)
    · refine thnF (T.item (blkP X s3 H3 scope ce fp p) rfl rfl rfl hc i [] s5 _ H5 (fun _ _ => False) I5 (stat I5 n5) st5 go) fun r s6 ⟨u, hr, h6⟩ => ?_
      subst hr
      refine thnF h6 fun _ s7 ⟨x, H7, I7, r7, y7, st7, n7⟩ => ?_
      have I7' := I7.pinned (stat I7 n7) (T.obj _ _ st7)
      refine thnF (pg.run _ s7 _ H7 x u _ I7' r7 (step x H7 y7)) fun _ s8 ⟨σ8, H8, I8, hw8, q8⟩ => thnF (pt.run _ s8 σ8 H8 _ I8 q8) fun b s9 ⟨H9, I9, q9⟩ => ?_
      have fin : ∀ {s' : Shared} {H' : Hp}, L2.Inv (blkP X s3 H3 scope ce fp p) ([] ++ pinsAt fp s7.heap) σ8 H' s' → Nx H' → ∃ m, m < n ∧ ∃ i H', L2.Inv (blkP X s3 H3 scope ce fp p) [] (wipe σ (own.map (·.2))) H' s' ∧ tn i s'.heap ∧ (∀ b ∈ fp, H' b = none) ∧ W i m H' := fun {s' H'} I' nx => by
        obtain ⟨m', hm, w'⟩ := hNx H' nx
        have pin' : ∀ b ∈ fp, ∀ o, s7.heap.get? b = some o → s'.heap.get? b = some o ∧ H' b = none := fun b hb o e =>
          have z := I'.pin (b, o) (List.mem_append_right _ (List.mem_append_right _ (mem_pinsAt hb e)))
          ⟨z.1, z.2.1⟩
        have hl : (wipe σ (own.map (·.2))).length = σ8.length := by rw [← hw8, wipe_length]
        refine ⟨m', hm, i + 1, H', (I'.unpinned (pins := [])).weak hl (fun j v e => by rw [← hw8] at e; exact (wipe_some e).1), T.keep _ _ _ st7 fun b hb o e => (pin' b hb o e).1, fun b hb => ?_, w'⟩
        obtain ⟨o, e, _⟩ := T.obj _ _ st7 b hb
        exact (pin' b hb o e).2
      cases b with
      | false =>
        simp only [Bool.false_eq_true, if_false] at q9 ⊢
        exact fin I9 q9
      | true =>
        simp only [if_true] at q9 ⊢
        exact thnF (pe.run _ s9 σ8 H9 _ I9 q9) fun z s10 ⟨yv, H10, I10, r10, acc, hD10, hz10, nx⟩ => app_ok (X := blkP X s3 H3 scope ce fp p) I10 hD10 hz10 r10 fun s11 I11 => fin I11 nx
  exact codeAny_compStart_list loop (T.self X.A 0 _ _ _ st4 loop)
/-- the range of a walk -/
theorem ith_range1 {X : Cx} {ξ : Exo} {W : WX} {a tg : Expr} {f : EI} {p pos : Pos} (hg : Gl X "range") (hm : X.mg "range" = none) (ha : PE X a (TI (gt X ξ) W f)) (hs : starEach [a] X.env = [(false, eval a X.env)] := by rfl) : L2H.PIH X tg (.Call (.Name "range" p) [a] [] pos) (TIt (gt X ξ) W (iRange1 f)) := by
  have h0 := L2H.pi_range1H (tg := tg) (p := p) (pos := pos) hg hm (a_cons ha a_nil (by rw [hs]; rfl)) hs
  refine ⟨fun pins s σ H Rr I h => h0.run pins s σ H Rr I ?_⟩
  obtain ⟨B, S, ρ, σI, st, R, L, h⟩ := h
  unfold iRng1
  refine ⟨B, S, ρ, σI, st, R, L, After.imp (P := fun x S1 ρ1 st1 H1 => ∃ i : Int, x = [.int i] ∧ small62 i = true ∧ Rr (Itr 0 i.toNat) H1) ?_ fun x S1 ρ1 st1 H1 s1 R1 ⟨i, e1, e2, q⟩ ws r1 => ?_⟩
  · have h2 := After.bind h
    unfold aCons aNil
    revert h2
    cases f σI st with
    | ok v st1 =>
      intro h2 S' ρ' H' s' R'
      have h3 := h2 S' ρ' H' s' R'
      dsimp only at h3
      split at h3
      · rename_i n
        split at h3
        · rename_i hz
          refine ⟨n, rfl, hz, ?_⟩
          have h4 := h3.here R'
          dsimp only at h4
          refine h4 (Itr 0 n.toNat) (fun _ => True) (YFn fun i => .int (0 + i)) (by rw [rangeV_length]; exact walk_range) (fun _ _ _ _ _ _ _ => True.intro) (fun i S2 ρ2 st2 H2 y H3 hi s2 R2 _ yy => ?_)
          rw [rangeV_length] at hi
          obtain ⟨e4, e5⟩ := yy
          rw [rangeV_get hi]
          exact yields_at R2 e4 (by rw [e5]; exact .int _)
        · exact h3.elim
      · exact h3.elim
    | er c st1 => exact fun h2 => h2
    | no => exact fun h2 => h2
  · subst e1
    obtain ⟨w, rfl, rw'⟩ := one_rvs r1
    cases rw'
    have := small62_to e2
    exact ⟨i, rfl, this.1, this.2, q⟩
section
variable {X : Cx} {ξ : Exo} {W : WX} {elt tg iter : Expr} {ifs : List Expr} {scope : Scope} {own : List (Str × Nat)} {pos : Pos} {it : II} {t : Tg} {c : BI} {f : EI} {p : Addr × Obj}
theorem i_lcH (hp : p ∈ X.pn) (hot : L2H.Hot1 X.A p) (hN : X.N.Nodup) (hi : L2H.PIH X tg iter (TIt (gt X ξ) W it)) (ok : BlkOk X.N X.env.scope scope own) (hsl : ∀ i ∈ Tg.slots t, i ∈ own.map (·.2))
    (hg : ∀ (s : Shared) (H : Hp) (C : Addr) (cl : List (Str × Addr)) (fp : List Addr), PG (blkP X s H scope (compEnvC scope cl C X.env) fp p) tg (Tg.g X.K t))
    (ht : ∀ (s : Shared) (H : Hp) (C : Addr) (cl : List (Str × Addr)) (fp : List Addr), PTs (blkP X s H scope (compEnvC scope cl C X.env) fp p) ifs (TB (gt X ξ) W0 c))
    (he : ∀ (s : Shared) (H : Hp) (C : Addr) (cl : List (Str × Addr)) (fp : List Addr), PE (blkP X s H scope (compEnvC scope cl C X.env) fp p) elt (TI (gt X ξ) W0 f)) (hs : ∀ x, foldedSetIterable iter X.env x = pure x := by intro _; rfl) :
    PE X (.ListComp elt [⟨tg, iter, ifs, 0⟩] scope pos) (TI (gt X ξ) W (eComp it t (own.map (·.2)) c f)) := by
  refine ⟨fun pins s σ H Q I h => ?_⟩
  have h1 := lc_imp (W := W) hsl (tt := TB (gt X ξ) W0 c) (te := TI (gt X ξ) W0 f) (fun _ _ _ q => q) (fun _ _ _ q => q) h
  rw [eval_ListComp]
  refine lc_hot hp hot I hi ok hN hg ht he hs h1 fun D C s' m H' I' q hn fk => ⟨m, hn, fun h'' sb => ?_⟩
  obtain ⟨f0, f1, f2, f3, f4, f5⟩ := fk
  exact ⟨.ref D, H', I'.turned (t' := s'.toks) (fun b o hb e => (sb.2 b hb).trans e) f0 f1 f3 f4 f5, rfl, q⟩
end
/-! ### calls of a local name that holds a def; {} ; names of defs and classes as values -/
def eCallV (tbl : List (Str × FI)) (i : Nat) (r : AI) : EI := fun σ st => match σ[i]? with
  | some (some (.gl x)) => match tbl.lookup x with
    | some F => eCallP F [] r σ st
    | none => .no
  | _ => .no
def eDct : EI := fun _ st => .ok .dct st
section
variable {X : Cx} {ξ : Exo} {W : WX} {e : Expr} {es : List Expr} {r : AI} {j n i : Nat} {x : Str} {p pos : Pos} {tbl : List (Str × FI)}
theorem i_dct : PE X (.Dict [] [] pos) (TI (gt X ξ) W eDct) := pe_dnewK.weak fun σ H Q ⟨B, S, ρ, σI, st, R, L, h⟩ => by
  intro d hd
  obtain ⟨R', s'⟩ := R.fix hd (.dK [])
  exact h.at s' R' _ (.dct upd_same)
theorem i_glK {y : Str} {a : Addr} (hm : X.mg y = some (.ref a)) (hg : Gl X y) (hd : (y == ("__debug__" : Str)) = false := by decide) : PE X (.Name y pos) (TI (gt X ξ) W (eC (.gl y))) := i_gl hg hm (w := .ref a) rfl hd
theorem relv_ref {w : V} {a : Addr} (r : RelV w (.ref a)) : w = .ref a := by
  cases w with
  | ref b => cases (show Value.ref a = Value.ref b from r); rfl
  | non => cases (show Value.ref a = Value.none from r)
  | bl b => cases (show Value.ref a = Value.bool b from r)
  | int i => obtain ⟨t, z⟩ := (show ∃ t, Value.ref a = Value.int i t from r); cases z
  | str i => obtain ⟨t, z⟩ := (show ∃ t, Value.ref a = Value.str i t from r); cases z
  | byt i => obtain ⟨t, z⟩ := (show ∃ t, Value.ref a = Value.bytes i t from r); cases z
  | flt i => obtain ⟨t, z⟩ := (show ∃ t, Value.ref a = Value.float i t from r); cases z
  | ty n => cases (show Value.ref a = Value.type n from r)
theorem i_callV (hk : ∀ y F, tbl.lookup y = some F → ∃ k, k ≤ j ∧ Kn X.prog X.w X.K X.mg X.base y k n [] F) (tk : L2N.Takes X W) (hr : Room j X.A) (hN : X.N[i]? = some x) (hv : Vis X.env.scope x) (ha : PA X (e :: es) (TL (gt X none) W r)) (hal : AI.len r (es.length + 1)) (hlen : es.length + 1 = n)
    (hdb : (x == ("__debug__" : Str)) = false := by decide) (hcd : (x == ("__classdict__" : Str)) = false := by decide) (he : starEach (e :: es) X.env = (false, eval e X.env) :: starEach es X.env := by rfl) (hpl : (backTo pos (starEach es X.env)).any (·.1) = false := by rfl) :
    PE X (.Call (.Name x p) (e :: es) [] pos) (TI (gt X none) W (eCallV tbl i r)) := by
  refine ⟨fun pins s σ H Q I h => ?_⟩
  obtain ⟨B, S, ρ, σI, st, R, L, h⟩ := h
  unfold eCallV at h
  split at h
  · rename_i y hy
    split at h
    · rename_i F hF
      obtain ⟨k, hkj, f, fd, ps, _, D, hm, hkp, hb⟩ := hk y F hF
      obtain ⟨w, hw, rw'⟩ := L.2 i _ hy
      have ew : w = .ref f := by
        cases rw' with
        | gl h1 h2 =>
          have e1 := (show X.mg y = some (.ref f) from hm).symm.trans (show X.mg y = _ from h1)
          cases e1
          exact relv_ref h2
      subst ew
      have h1 : tCallSD (spI (gt X none) n F) [] (fun σ cls d H => W cls d σ H) (TL (gt X none) W r) σ H Q := callP_imp (dvs := []) (fun _ _ _ => .nil) (by simpa using hlen) hal ⟨B, S, ρ, σI, st, R, L, h⟩
      have passes : ∀ σ, PassesAt (L2N.CX X.prog X.w) X σ (fun cls d H => W cls d σ H) := fun σ pins H s e s' I c => tk _ _ (L2N.XE.of_call (W := W) I (fun cls d H' h => h) c)
      refine wpAny_Call_Name_kw (thn ((pe_var (pos := p) hN hv hdb hcd).run pins s σ H (fun v H1 => v = .ref f ∧ H1 = H) I ⟨.ref f, hw, rfl, rfl⟩) fun u s1 ⟨v, H1, I1, r1, q1⟩ => ?_)
      obtain ⟨rfl, rfl⟩ := q1
      cases r1
      refine PySem.W.callWith_K (h₀ := X.base) I.ok.mod.kin hkp (thn (ha.run pos pins s1 σ _ _ I1 h1) fun us s2 ⟨vs, H2, I2, rl, q2⟩ => ⟨I2.kIn, ?_⟩) he hpl
      exact run_fnSD (E := fun σ cls d H => W cls d σ H) D (hr.mono hkj) hb .nil (passes σ) I2 rl q2
    · exact h.elim
  · exact h.elim
end
end
end Bd

namespace Bd
noncomputable section
open PySem L2
/-- the class that the clauses name, and what it takes -/
def ErrB (K : PySem.W.Frag) (mg : Str → Option Value) (x : Str) (oks : List Str) : Prop := ∃ Cb, mg x = some (.ref Cb) ∧ ∀ c C, oks.contains c = true → mg c = some (.ref C) → PySem.W.exmOne K (.ref C) (.ref Cb) = some true
section
variable {X : Cx} {W : WX} {x n : Str} {i : Nat} {oks : List Str} {body suite : List Stmt} {b₀ : Stmt} {np pos pos' : Pos} {f g : SI}
theorem s_tryA (hB : ErrB X.K X.mg x oks) (hN : X.N.Nodup) (hi : X.N[i]? = some n) (tk : L2N.Takes X W)
    (hb : ∀ (W' : WX) (pn : List (Addr × Obj)) (xe : Value → Shared → Prop), L2N.Takes (X.tr pn xe) W' → PassesOwn (model X.prog X.w) X.A X.env xe → PSs (X.tr pn xe) body (TS' (gt X none) W' f))
    (hsu : ∀ (a : Addr) (oe : Obj) (C : Addr) (pn : List (Addr × Obj)) (c : Str), L2N.Zn (.ref C) none oe → (∃ vs, oe.data = .fields vs) → X.mg c = some (.ref C) → oks.contains c = true → PSs (X.suite a ((a, oe) :: pn)) (b₀ :: suite) (TS' ⟨X.K, X.mg, some (a, c)⟩ W0 g))
    (hg : Gl X x := by rfl) (hd : (x == ("__debug__" : Str)) = false := by decide) (hs : X.stack = X.env :: X.outer := by rfl) (hf : X.env.frame = some X.env.locals := by rfl) (hln : X.env.kindOf n = some .local := by rfl) :
    PS X (.Try body [.ExceptHandler (some (.Name x np)) (some n) (b₀ :: suite) pos'] [] [] pos) (TS' (gt X none) W (sTry oks (some i) f g)) := by
  obtain ⟨Cb, m, h⟩ := hB
  exact s_try_as hs hf hN hi hln ⟨hg, hd, .inl m⟩ tk h hb hsu
theorem s_tryO (hB : ErrB X.K X.mg x oks) (tk : L2N.Takes X W)
    (hb : ∀ (W' : WX) (pn : List (Addr × Obj)) (xe : Value → Shared → Prop), L2N.Takes (X.tr pn xe) W' → PassesOwn (model X.prog X.w) X.A X.env xe → PSs (X.tr pn xe) body (TS' (gt X none) W' f))
    (hsu : ∀ (a : Addr) (oe : Obj) (C : Addr) (pn : List (Addr × Obj)) (c : Str), L2N.Zn (.ref C) none oe → (∃ vs, oe.data = .fields vs) → X.mg c = some (.ref C) → oks.contains c = true → PSs (X.suite a ((a, oe) :: pn)) (b₀ :: suite) (TS' ⟨X.K, X.mg, some (a, c)⟩ W0 g))
    (hg : Gl X x := by rfl) (hd : (x == ("__debug__" : Str)) = false := by decide) (hs : X.stack = X.env :: X.outer := by rfl) (hf : X.env.frame = some X.env.locals := by rfl) :
    PS X (.Try body [.ExceptHandler (some (.Name x np)) none (b₀ :: suite) pos'] [] [] pos) (TS' (gt X none) W (sTry oks none f g)) := by
  obtain ⟨Cb, m, h⟩ := hB
  exact s_try_only hs hf ⟨hg, hd, .inl m⟩ tk h hb hsu
theorem suite_hot {a : Addr} {oe : Obj} {C : Addr} {pn : List (Addr × Obj)} (hz : L2N.Zn (.ref C) none oe) (hfl : ∃ vs, oe.data = .fields vs) : L2H.Hot1 (X.suite a pn).A (a, oe) := by
  obtain ⟨vs, e⟩ := hfl
  exact ⟨rfl, vs, e, hz.2.2 vs e⟩
theorem suite_room {a : Addr} {k : Nat} {pn : List (Addr × Obj)} (hr : Room k X.A) : L2H.RoomH k (X.suite a pn).A := ⟨hr.dp, hr.un⟩
theorem hot_fields {A : Around} {p : Addr × Obj} (h : L2H.Hot1 A p) : ∃ vs, p.2.data = .fields vs := by
  obtain ⟨_, vs, e, _⟩ := h
  exact ⟨vs, e⟩
end
/-- the defs of a table -/
def TblK (P : Program) (w : World) (K : PySem.W.Frag) (mg : Str → Option Value) (base : Heap) (j n : Nat) (tbl : List (Str × FI)) : Prop := ∀ y F, tbl.lookup y = some F → ∃ k, k ≤ j ∧ Kn P w K mg base y k n [] F
section
variable {P : Program} {w : World} {K : PySem.W.Frag} {mg : Str → Option Value} {base : Heap} {j k n : Nat} {x : Str} {F : FI} {tbl : List (Str × FI)}
theorem tk_nil : TblK P w K mg base j n [] := fun y F h => by simp at h
theorem tk_cons (h : Kn P w K mg base x k n [] F) (hk : k ≤ j) (r : TblK P w K mg base j n tbl) : TblK P w K mg base j n ((x, F) :: tbl) := fun y G e => by
  rw [List.lookup_cons] at e
  by_cases q : (y == x) = true
  · rw [q] at e
    cases e
    rw [beq_iff_eq.mp q]
    exact ⟨k, hk, h⟩
  · rw [Bool.not_eq_true] at q
    rw [q] at e
    exact r y G e
end
section
variable {X : Cx} {ξ : Exo} {W : WX} {e : Expr} {es : List Expr} {r : AI} {j k n i : Nat} {x y : Str} {p pos : Pos} {tbl : List (Str × FI)} {ds : List Value} {F : FI}
theorem i_callT' (hk : TblK X.prog X.w X.K X.mg X.base j n tbl) (tk : L2N.Takes X W) (hr : Room j X.A) (hN : X.N[i]? = some x) (ha : PA X (e :: es) (TL (gt X none) W r)) (hal : AI.len r (es.length + 1)) (hlen : es.length + 1 = n) (hv : Vis X.env.scope x := by first | exact Or.inl rfl | exact Or.inr (Or.inl rfl) | exact Or.inr (Or.inr rfl))
    (hdb : (x == ("__debug__" : Str)) = false := by decide) (hcd : (x == ("__classdict__" : Str)) = false := by decide) (he : starEach (e :: es) X.env = (false, eval e X.env) :: starEach es X.env := by rfl) (hpl : (backTo pos (starEach es X.env)).any (·.1) = false := by rfl) :
    PE X (.Call (.Name x p) (e :: es) [] pos) (TI (gt X none) W (eCallV tbl i r)) := i_callV hk tk hr hN hv ha hal hlen hdb hcd he hpl
theorem i_glF (h : Kn X.prog X.w X.K X.mg X.base y k n ds F) (hg : Gl X y) (hd : (y == ("__debug__" : Str)) = false := by decide) : PE X (.Name y pos) (TI (gt X ξ) W (eC (.gl y))) := by
  obtain ⟨f, fd, ps, _, _, hm, _, _⟩ := h
  exact i_glK hm hg hd
theorem i_glC (h : ∃ C, X.mg y = some (.ref C)) (hg : Gl X y) (hd : (y == ("__debug__" : Str)) = false := by decide) : PE X (.Name y pos) (TI (gt X ξ) W (eC (.gl y))) := by
  obtain ⟨C, hm⟩ := h
  exact i_glK hm hg hd
end
/-! ### a + b, a list that may be changed -/
def kAddN : Val → Val → Sto → Out Val := fun x y st => match x, y with
  | .int i, .int j => .ok (.int (i + j)) st
  | _, _ => match lstOf st x, lstOf st y with
    | some vs, some us => if vs.length + us.length ≤ 1000000 then .ok (.ref st.length) (st ++ [.lst (vs ++ us)]) else .no
    | _, _ => .no
section
variable {X : Cx} {ξ : Exo} {W : WX} {a b : Expr} {fa fb : EI} {pos : Pos}
theorem kAddN_bears : Bears2 X ξ W (fun x y H Q => rI0 (fun i j => V.int (i + j)) x y H Q ∨ rCat x y H Q) kAddN := by
  intro B S ρ st σ H x y v w Q R rx ry h
  unfold kAddN at h
  split at h
  · rename_i i j
    cases rx; cases ry
    exact .inl ⟨i, j, rfl, rfl, h.here R _ (.int _)⟩
  · split at h
    · rename_i vs us e1 e2
      split at h
      · rename_i hz
        obtain ⟨p, ws, rfl, hp, r1⟩ := lstOf_get R rx e1
        obtain ⟨q, zs, rfl, hq, r2⟩ := lstOf_get R ry e2
        refine .inr ⟨p, q, ws, zs, rfl, rfl, hp, hq, ?_, fun n hn => ?_⟩
        · rw [← r1.length, ← r2.length, sizeLine_eq]; omega
        · obtain ⟨R', s'⟩ := R.new hn (r1.append r2)
          exact h.at s' R' _ (.ref (by rw [← R.len]; simp))
      · exact h.elim
    · exact h.elim
theorem i_addN (ha : PE X a (TI (gt X ξ) W fa)) (hb : PE X b (TI (gt X ξ) W fb)) : PE X (.BinOp a .Add b pos) (TI (gt X ξ) W (eBin kAddN fa fb)) := i_bin op_addA kAddN_bears ha hb
end
@[simp] theorem k_addNI {i j : Int} {st : Sto} : kAddN (.int i) (.int j) st = .ok (.int (i + j)) st := rfl
@[simp] theorem k_addNR {i : Nat} {y : Val} {st : Sto} : kAddN (.ref i) y st = match obLst st[i]?, lstOf st y with
    | some vs, some us => if vs.length + us.length ≤ 1000000 then .ok (.ref st.length) (st ++ [.lst (vs ++ us)]) else .no
    | _, _ => .no := by cases y <;> rfl
@[simp] theorem k_addNL {x : List Val} {y : Val} {st : Sto} : kAddN (.lst x) y st = match lstOf st y with
    | some us => if x.length + us.length ≤ 1000000 then .ok (.ref st.length) (st ++ [.lst (x ++ us)]) else .no
    | _ => .no := by
  cases y with
  | ref i =>
    show (match some x, obLst st[i]? with
      | some vs, some us => if vs.length + us.length ≤ 1000000 then Out.ok (Val.ref st.length) (st ++ [Ob.lst (vs ++ us)]) else Out.no
      | _, _ => Out.no) = match obLst st[i]? with
      | some us => if x.length + us.length ≤ 1000000 then Out.ok (Val.ref st.length) (st ++ [Ob.lst (x ++ us)]) else Out.no
      | _ => Out.no
    cases obLst st[i]? <;> rfl
  | _ => rfl
/-! ### the facts of the error classes, from what the text's part says -/
theorem fact_of {mg : Str → Option Value} {c : Str} {C C1 : Addr} {p : Addr → Prop} (h1 : mg c = some (.ref C1)) (h2 : mg c = some (.ref C)) (h : p C1) : p C := by
  rw [h1] at h2; cases h2; exact h
theorem kit_err {K : PySem.W.Frag} {C : Addr} (hs : PySem.W.subIn K (.ref C) (.type "ValueError") = some true) : PySem.W.kitOne K (.ref C) (.type "ValueError") = some true := by
  unfold PySem.W.kitOne
  have ne : ¬ ((Value.ref C == Value.type "ValueError") = true) := fun h => by
    have := beq_iff_eq.mp h
    cases this
  rw [if_neg ne]
  show (if PySem.W.kitMeta "ValueError" = true then PySem.W.subIn K (.ref C) (.type "ValueError") else none) = some true
  rw [if_pos (by decide +kernel), hs]
theorem ne_of_sub {K : PySem.W.Frag} {C D : Addr} (h1 : PySem.W.subIn K (.ref C) (.ref C) = some true) (h2 : PySem.W.subIn K (.ref C) (.ref D) = some false) : Value.ref C = Value.ref D → false = true := fun e => by
  cases e
  rw [h1] at h2
  cases h2
/-! reckoning -/
@[simp] theorem x_sTry {oks : List Str} {i : Option Nat} {f g : SI} {σ : Sg} {st : Sto} : sTry oks i f g σ st = match f σ st with
  | .er c σ1 st1 => if oks.contains c = true then backEx i (g (putEx i c σ1) st1) else .no
  | r => r := rfl
@[simp] theorem x_putS {i : Nat} {c : Str} {σ : Sg} : putEx (some i) c σ = σ.set i (some (.ex c)) := rfl
@[simp] theorem x_putN {c : Str} {σ : Sg} : putEx none c σ = σ := rfl
@[simp] theorem x_unS {i : Nat} {σ : Sg} : unEx (some i) σ = σ.set i none := rfl
@[simp] theorem x_unN {σ : Sg} : unEx none σ = σ := rfl
@[simp] theorem x_bkN {i : Option Nat} {σ : Sg} {st : Sto} : backEx i (.nx σ st) = if (exsl (unEx i σ) && exst st) = true then .nx (unEx i σ) st else .no := rfl
@[simp] theorem x_bkR {i : Option Nat} {v : Val} {st : Sto} : backEx i (.rt v st) = if (exf v && exst st) = true then .rt v st else .no := rfl
@[simp] theorem x_eCallV {tbl : List (Str × FI)} {i : Nat} {r : AI} {σ : Sg} {st : Sto} : eCallV tbl i r σ st = match σ[i]? with
  | some (some (.gl x)) => match tbl.lookup x with
    | some F => eCallP F [] r σ st
    | none => .no
  | _ => .no := rfl
@[simp] theorem x_eDct {σ : Sg} {st : Sto} : eDct σ st = .ok .dct st := rfl
@[simp] theorem xf_non : exf .non = true := by simp only [exf]
@[simp] theorem xf_bl {b : Bool} : exf (.bl b) = true := by simp only [exf]
@[simp] theorem xf_int {b : Int} : exf (.int b) = true := by simp only [exf]
@[simp] theorem xf_str {b : Str} : exf (.str b) = true := by simp only [exf]
@[simp] theorem xf_dct : exf .dct = true := by simp only [exf]
@[simp] theorem xf_gl {b : Str} : exf (.gl b) = true := by simp only [exf]
@[simp] theorem xf_ref {b : Nat} : exf (.ref b) = true := by simp only [exf]
@[simp] theorem xf_tup {vs : List Val} : exf (.tup vs) = exfs vs := by simp only [exf]
@[simp] theorem xf_lst {vs : List Val} : exf (.lst vs) = exfs vs := by simp only [exf]
@[simp] theorem xf_scr {vs : List Val} : exf (.scr vs) = exfs vs := by simp only [exf]
@[simp] theorem xf_ins {c : Str} {vs : List (Str × Val)} : exf (.ins c vs) = exff vs := by simp only [exf]
@[simp] theorem xfs_nil : exfs [] = true := by simp only [exfs]
@[simp] theorem xfs_cons {v : Val} {vs : List Val} : exfs (v :: vs) = (exf v && exfs vs) := by simp only [exfs]
@[simp] theorem xff_nil : exff [] = true := by simp only [exff]
@[simp] theorem xff_cons {x : Str} {v : Val} {vs : List (Str × Val)} : exff ((x, v) :: vs) = (exf v && exff vs) := by simp only [exff]
@[simp] theorem xst_nil : exst [] = true := rfl
@[simp] theorem xst_cons {o : Ob} {st : Sto} : exst (o :: st) = (exfo o && exst st) := rfl
@[simp] theorem xo_lst {vs : List Val} : exfo (.lst vs) = exfs vs := rfl
@[simp] theorem xo_ins {c : Str} {vs : List (Str × Val)} : exfo (.ins c vs) = exff vs := rfl
@[simp] theorem xsl_nil : exsl [] = true := rfl
@[simp] theorem xsl_some {v : Val} {σ : Sg} : exsl (some v :: σ) = (exf v && exsl σ) := rfl
@[simp] theorem xsl_none {σ : Sg} : exsl (none :: σ) = exsl σ := by show (true && exsl σ) = exsl σ; simp
@[simp] theorem xfs_app {vs us : List Val} : exfs (vs ++ us) = (exfs vs && exfs us) := by
  induction vs with
  | nil => simp
  | cons v vs ih => simp [ih, Bool.and_assoc]
theorem exfs_map {α : Type} {f : α → Val} (h : ∀ a, exf (f a) = true) : ∀ l : List α, exfs (l.map f) = true
  | [] => by simp
  | a :: l => by simp [h a, exfs_map h l]
@[simp] theorem xfs_ints {l : List Int} : exfs (l.map Val.int) = true := exfs_map (fun _ => xf_int) l
@[simp] theorem k_isE {xs : List Str} {c x : Str} {st : Sto} : kIsE xs [.ex c, .gl x] st = if xs.contains x = true then .ok (.bl (x == c || x == "BeadError")) st else .no := by
  unfold kIsE kL
  dsimp only
  split <;> simp_all
@[simp] theorem k_isV {xs : List Str} {c : Str} {st : Sto} : kIsE xs [.ex c, .ty .verr] st = .ok (.bl true) st := rfl
@[simp] theorem f_ex {c : Str} : flat (.ex c) = true := by simp only [flat]
@[simp] theorem isNon_dct : isNon .dct = some false := rfl
end
end Bd

namespace Bd
noncomputable section
open PySem L2 PySem.SeqAt
/-! ### xs == [], xs != []: what is in the list isn't looked at -/
def rEmp (K : PySem.W.Frag) (b : Bool) : R2 := fun x y H Q => ∃ a c xs, x = .ref a ∧ y = .ref c ∧ SqL K H a xs ∧ SqL K H c [] ∧ Q (.bl (if xs.isEmpty = true then b else !b)) H
section
variable {X : Cx} {ξ : Exo} {W : WX} {a b : Expr} {fa fb : EI} {pos : Pos}
theorem op_eqE (hu : X.A.units + 64 < cLine) : OpR X (compareOp .Eq) (rEmp X.K true) := by
  intro pins s σ H x y v u Q I rx ry h
  obtain ⟨p, q, xs, rfl, rfl, h1, h2, hq⟩ := h
  cases rx; cases ry
  cases xs with
  | nil => exact op_eqD hu pins s σ H (.ref p) (.ref q) (.ref p) (.ref q) Q I rfl rfl ⟨.list [], .list [], .lst h1 .nil, .lst h2 .nil, by decide +kernel, by decide +kernel, hq⟩
  | cons x xs =>
    obtain ⟨i1, r1, l1, _⟩ := I.list h1
    obtain ⟨i2, r2, l2, _⟩ := I.list h2
    cases r2
    have hl := r1.length
    refine eq_list_lengthsAt l1.isList l2.isList ?_ (by omega) ⟨.bl false, H, I, rfl, hq⟩
    cases i1 with
    | nil => simp at hl
    | cons c d => simp
theorem op_neE (hu : X.A.units + 64 < cLine) : OpR X (compareOp .NotEq) (rEmp X.K false) := by
  intro pins s σ H x y v u Q I rx ry h
  obtain ⟨p, q, xs, rfl, rfl, h1, h2, hq⟩ := h
  cases rx; cases ry
  cases xs with
  | nil => exact op_neD hu pins s σ H (.ref p) (.ref q) (.ref p) (.ref q) Q I rfl rfl ⟨.list [], .list [], .lst h1 .nil, .lst h2 .nil, by decide +kernel, by decide +kernel, hq⟩
  | cons x xs =>
    obtain ⟨i1, r1, l1, _⟩ := I.list h1
    obtain ⟨i2, r2, l2, _⟩ := I.list h2
    cases r2
    have hl := r1.length
    refine RcNeAt.lists_lengths l1.isList l2.isList ?_ (by omega) _ _ _ _ ⟨.bl true, H, I, rfl, hq⟩
    cases i1 with
    | nil => simp at hl
    | cons c d => simp
def kEmp (b : Bool) : Val → Val → Sto → Out Val := kOpt fun x y st => match y with
  | .lst [] => (listOf st x).map fun vs => .bl (if vs.isEmpty = true then b else !b)
  | _ => none
theorem kEmp_bears {b : Bool} : Bears2 X ξ W (rEmp X.K b) (kEmp b) := by
  intro B S ρ st σ H x y v w Q R rx ry h
  obtain ⟨z, e0, h0⟩ := kOpt_some h
  split at e0
  · obtain ⟨vs, e1, rfl⟩ := Option.map_eq_some_iff.mp e0
    obtain ⟨p, ws, rfl, hp, r1⟩ := listOf_get R rx e1
    obtain ⟨q, zs, rfl, hq, r2⟩ := lstOf_get R ry (show lstOf st (.lst []) = some [] from rfl)
    cases r2
    refine ⟨p, q, ws, rfl, rfl, hp, SqL.of hq, ?_⟩
    have : vs.isEmpty = ws.isEmpty := by cases r1 <;> rfl
    rw [← this]
    exact h0.here R _ (.bl _)
  · cases e0
theorem i_eqE (ha : PE X a (TI (gt X ξ) W fa)) (hb : PE X b (TI (gt X ξ) W fb)) (hu : X.A.units + 64 < cLine) : PE X (.Compare a [.Eq] [b] pos) (TI (gt X ξ) W (eBin (kEmp true) fa fb)) := i_cmp (op_eqE hu) kEmp_bears ha hb (nomark _)
theorem i_neE (ha : PE X a (TI (gt X ξ) W fa)) (hb : PE X b (TI (gt X ξ) W fb)) (hu : X.A.units + 64 < cLine) : PE X (.Compare a [.NotEq] [b] pos) (TI (gt X ξ) W (eBin (kEmp false) fa fb)) := i_cmp (op_neE hu) kEmp_bears ha hb (nomark _)
theorem t_eqE (ha : PE X a (TI (gt X ξ) W fa)) (hb : PE X b (TI (gt X ξ) W fb)) (hu : X.A.units + 64 < cLine) : PT X (.Compare a [.Eq] [b] pos) (TB (gt X ξ) W (bOf (eBin (kEmp true) fa fb))) := t_cmp (op_eqE hu) kEmp_bears ha hb (nomark _)
theorem t_neE (ha : PE X a (TI (gt X ξ) W fa)) (hb : PE X b (TI (gt X ξ) W fb)) (hu : X.A.units + 64 < cLine) : PT X (.Compare a [.NotEq] [b] pos) (TB (gt X ξ) W (bOf (eBin (kEmp false) fa fb))) := t_cmp (op_neE hu) kEmp_bears ha hb (nomark _)
end
@[simp] theorem k_emp {b : Bool} {x : Val} {st : Sto} : kEmp b x (.lst []) st = match (listOf st x).map fun vs => Val.bl (if vs.isEmpty = true then b else !b) with
  | some v => .ok v st
  | none => .no := rfl
/-! ### the greatest, the least of a list of numbers; sums of fields follow in the class part -/
end
end Bd

namespace Bd
noncomputable section
open PySem L2
/-! ### a comprehension's list that may be changed -/
def eCompN (it : II) (t : Tg) (own : List Nat) (c : BI) (f : EI) : EI := fun σ st => (it σ st).bind fun x st1 => open Classical in if x.2 st1 ∧ small x.1.length = true then (compL t own c f x.2 σ x.1 [] st1).bind fun acc st2 => .ok (.ref st2.length) (st2 ++ [.lst acc]) else .no
section
variable {X : Cx} {ξ : Exo} {W : WX} {elt tg iter : Expr} {ifs : List Expr} {scope : Scope} {own : List (Str × Nat)} {pos : Pos} {it : II} {t : Tg} {c : BI} {f : EI}
theorem lc_impN (hi : ∀ i ∈ Tg.slots t, i ∈ own.map (·.2)) {tt : TT} {te : TE} (ht : ∀ σ H Q, TB (gt X ξ) W0 c σ H Q → tt σ H Q) (he : ∀ σ H Q, TI (gt X ξ) W0 f σ H Q → te σ H Q) {σ : St} {H : Hp} {Q : VK}
    (h : TI (gt X ξ) W (eCompN it t (own.map (·.2)) c f) σ H Q) : tLc (TIt (gt X ξ) W it) (Tg.g X.K t) tt te (own.map (·.2)) σ H Q := by
  obtain ⟨B, S, ρ, σI, st, R, L, h⟩ := h
  refine ⟨B, S, ρ, σI, st, R, L, (After.bind h).imp fun x S1 ρ1 st1 H1 s1 R1 h1 J Gd Y w hG hY D hD => ?_⟩
  obtain ⟨items, still⟩ := x
  dsimp only at h1 w hG hY
  by_cases hst : still st1 ∧ small items.length = true
  · rw [if_pos hst] at h1
    obtain ⟨hst, hsm⟩ := hst
    have L1 := L.mono s1.s s1.r
    have hDS : S1 D = none := R1.s.free hD
    have hDB : B D = none := R1.b.free hD
    have hDr : D ∉ ρ1 := fun hm => by
      obtain ⟨i, hi, q⟩ := List.mem_iff_getElem.mp hm
      obtain ⟨o, ho⟩ := R1.inS (show ρ1[i]? = some D by rw [List.getElem?_eq_getElem hi, q])
      rw [hD] at ho; cases ho
    refine lc_it w (fun i H => ∃ S2 ρ2 st2 acc accV, Step B S1 ρ1 S2 ρ2 ∧ HR (gt X ξ) B S2 ρ2 st2 H ∧ still st2 ∧ H D = some (.lst accV) ∧ RVs (gt X ξ) S2 ρ2 acc accV ∧ acc.length ≤ i ∧ S2 D = none ∧ D ∉ ρ2 ∧
      After (gt X ξ) W B S2 ρ2 σ ((compL t (own.map (·.2)) c f still σI (items.drop i) acc st2).bind fun acc st2 => .ok (.ref st2.length) (st2 ++ [.lst acc])) fun v S' ρ' _ H' => ∀ w, RV (gt X ξ) S' ρ' v w → Q w H') ?_ ?_ ?_ ?_
    · exact ⟨S1, ρ1, st1, [], [], Step.refl, R1.aside hDS hDB hDr, hst, upd_same, .nil, Nat.zero_le _, hDS, hDr, by simpa using h1⟩
    · rintro i H hi ⟨S2, ρ2, st2, acc, accV, s2, R2, h2, _⟩
      exact hG S2 ρ2 st2 H s2 R2 h2
    · rintro i x H2 H3 hi3 ⟨S2, ρ2, st2, acc, accV, s2, R2, h2, hd2, ra, hl, d1, d2, h3⟩ y
      obtain ⟨S3, v, s3, R3, keep, ev, rv⟩ := hY i S2 ρ2 st2 H2 x H3 hi3 s2 R2 h2 y
      obtain ⟨d3, hd3⟩ := keep D _ d1 hd2
      have ed : items.drop i = v :: items.drop (i + 1) := by
        have e2 : items[i]? = some v := ev
        rw [List.getElem?_eq_getElem hi3] at e2
        rw [List.drop_eq_getElem_cons hi3, Option.some.inj e2]
      rw [ed] at h3
      unfold compL at h3
      split at h3
      · exact h3.elim
      · rename_i σ1 e1
        have Lw : SlR (gt X ξ) S3 ρ2 (wipeI σI (own.map (·.2))) (wipe σ (own.map (·.2))) := wipe_rel ((L1.mono s2.s s2.r).mono s3.s s3.r) _
        have h4 := h3.shift s3
        refine Tg.g_of R3 t Lw rv e1 fun σ' L4 b4 => ⟨?_, ?_⟩
        · rw [wipe_but b4 hi, wipe_wipe]
        · -- the base with the list that grows
          have sB : Same B (upd B D (.lst accV)) := fun p u e => by rw [upd_ne (ne_of_none e hDB)]; exact e
          have RB : HR (gt X ξ) (upd B D (.lst accV)) S3 ρ2 st2 H3 := ⟨fun p u e => by
              by_cases hp : p = D
              · subst hp; rw [upd_same] at e; cases e; exact hd3
              · rw [upd_ne hp] at e; exact R3.b _ _ e, R3.s, R3.nd, R3.len, fun j p hp => ⟨(R3.fr j p hp).1, by rw [upd_ne (by rintro rfl; exact d2 (List.mem_of_getElem? hp))]; exact (R3.fr j p hp).2⟩, R3.ob⟩
          have baseN : ∀ p, upd B D (.lst accV) p = none → B p = none := fun p q => by
            by_cases hp : p = D
            · subst hp; exact hDB
            · rw [upd_ne hp] at q; exact q
          have far : ∀ {S4 : Hp} {ρ4 : List Addr} {st4 : Sto} {H4 : Hp}, Step (upd B D (.lst accV)) S3 ρ2 S4 ρ4 → HR (gt X ξ) (upd B D (.lst accV)) S4 ρ4 st4 H4 → H4 D = some (.lst accV) ∧ S4 D = none ∧ D ∉ ρ4 := by
            intro S4 ρ4 st4 H4 s4 R4
            refine ⟨R4.b _ _ upd_same, ?_, fun hm => ?_⟩
            · cases q : S4 D with
              | none => rfl
              | some u =>
                rcases s4.n D (by rw [q]; simp) with z | z
                · exact absurd d3 z
                · rw [upd_same] at z; cases z
            · obtain ⟨j, hj, q⟩ := List.mem_iff_getElem.mp hm
              have := (R4.fr j D (by rw [List.getElem?_eq_getElem hj, q])).2
              rw [upd_same] at this; cases this
          -- the piece of h4 that is the test's
          revert h4
          cases ec : c σ1 st2 with
          | no => exact fun h4 => h4.elim
          | er cc st4 => exact fun h4 => h4.elim
          | ok bv st4 =>
            intro h4
            refine ht _ _ _ ⟨_, S3, ρ2, σ1, st2, RB, L4, ?_⟩
            rw [ec]
            intro S4 ρ4 H4 s4 R4
            obtain ⟨f1, f2, f3⟩ := far s4 R4
            have s4' : Step B S3 ρ2 S4 ρ4 := s4.base baseN
            have h4 : After (gt X ξ) W B S3 ρ2 σ ((if bv = true then (noer (f σ1 st4)).bind fun y st3 => (open Classical in if still st3 then compL t (own.map (·.2)) c f still σI (items.drop (i + 1)) (acc ++ [y]) st3 else .no)
              else (open Classical in if still st4 then compL t (own.map (·.2)) c f still σI (items.drop (i + 1)) acc st4 else .no)).bind fun acc st2 => .ok (Val.ref st2.length) (st2 ++ [Ob.lst acc])) (fun v S' ρ' _ H' => ∀ w, RV (gt X ξ) S' ρ' v w → Q w H') := h4
            cases bv with
            | false =>
              rw [if_neg Bool.false_ne_true] at h4 ⊢
              by_cases h6 : still st4
              · rw [if_pos h6] at h4
                exact ⟨S4, ρ4, st4, acc, accV, s2.trans (s3.trans s4'), R4.base sB, h6, f1, (ra.mono s3.s s3.r).mono s4.s s4.r, by omega, f2, f3, h4.shift s4'⟩
              · rw [if_neg h6] at h4; exact h4.elim
            | true =>
              rw [if_pos rfl] at h4 ⊢
              revert h4
              cases ef : f σ1 st4 with
              | no => exact fun h4 => h4.elim
              | er cc st5 => exact fun h4 => h4.elim
              | ok yv st5 =>
                intro h4
                refine he _ _ _ ⟨_, S4, ρ4, σ1, st4, R4, L4.mono s4.s s4.r, ?_⟩
                rw [ef]
                intro S5 ρ5 H5 s5 R5 wv rw5
                obtain ⟨g1, g2, g3⟩ := far (s4.trans s5) R5
                have s5' : Step B S4 ρ4 S5 ρ5 := s5.base baseN
                have h4 : After (gt X ξ) W B S3 ρ2 σ ((open Classical in if still st5 then compL t (own.map (·.2)) c f still σI (items.drop (i + 1)) (acc ++ [yv]) st5 else .no).bind fun acc st2 => .ok (Val.ref st2.length) (st2 ++ [Ob.lst acc])) (fun v S' ρ' _ H' => ∀ w, RV (gt X ξ) S' ρ' v w → Q w H') := h4
                by_cases h6 : still st5
                · rw [if_pos h6] at h4
                  have ra5 := ((ra.mono s3.s s3.r).mono s4.s s4.r).mono s5.s s5.r
                  refine ⟨accV, g1, ?_, S5, ρ5, st5, acc ++ [yv], accV ++ [wv], s2.trans (s3.trans (s4'.trans s5')), (R5.base sB).aside g2 hDB g3, h6, upd_same, ra5.append (.cons rw5 .nil), by simp; omega, g2, g3, h4.shift (s4'.trans s5')⟩
                  have q1 : items.length ≤ 1000000 := of_decide_eq_true hsm
                  have q2 : i < items.length := hi3
                  rw [← ra5.length, sizeLine_eq]; omega
                · rw [if_neg h6] at h4; exact h4.elim
    · rintro H2 ⟨S2, ρ2, st2, acc, accV, s2, R2, h2, hd2, ra, hl, d1, d2, h3⟩
      have ed : items.drop items.length = [] := List.drop_length
      rw [ed] at h3
      have e0 : compL t (own.map (·.2)) c f still σI [] acc st2 = .ok acc st2 := rfl
      rw [e0] at h3
      have R3 : HR (gt X ξ) B S2 (ρ2 ++ [D]) (st2 ++ [.lst acc]) H2 := by
        have pr : ρ2 <+: ρ2 ++ [D] := List.prefix_append _ _
        refine ⟨R2.b, R2.s, List.nodup_append.mpr ⟨R2.nd, by simp, fun a ha b hb => by simp at hb; subst hb; rintro rfl; exact d2 ha⟩, by simp [R2.len], fun i q hq => ?_, fun i q ob q1 q2 => ?_⟩
        · by_cases hi : i < ρ2.length
          · rw [List.getElem?_append_left hi] at hq; exact R2.fr i q hq
          · rw [List.getElem?_append_right (by omega)] at hq
            have h0 : i - ρ2.length = 0 := by
              by_cases h0 : i - ρ2.length = 0
              · exact h0
              · rw [List.getElem?_eq_none (by simp; omega)] at hq; cases hq
            rw [h0] at hq; simp at hq; subst hq; exact ⟨d1, hDB⟩
        · by_cases hi : i < ρ2.length
          · rw [List.getElem?_append_left hi] at q1
            rw [List.getElem?_append_left (by rw [← R2.len]; exact hi)] at q2
            exact (R2.ob i q ob q1 q2).mono (Same.refl _) pr fun _ e => e
          · rw [List.getElem?_append_right (by omega)] at q1
            have h0 : i - ρ2.length = 0 := by
              by_cases h0 : i - ρ2.length = 0
              · exact h0
              · rw [List.getElem?_eq_none (by simp; omega)] at q1; cases q1
            rw [h0] at q1; simp at q1; subst q1
            rw [List.getElem?_append_right (by rw [← R2.len]; omega), ← R2.len, h0] at q2
            simp at q2; subst q2
            exact ⟨accV, hd2, ra.mono (Same.refl _) pr⟩
      exact h3 S2 (ρ2 ++ [D]) H2 ⟨Same.refl _, List.prefix_append _ _, fun p q => .inl q⟩ R3 _ (.ref (by rw [← R2.len]; simp))
  · rw [if_neg hst] at h1; exact h1.elim
theorem i_lcN (hc : X.calm = true) (hN : X.N.Nodup) (hi : PI X tg iter (TIt (gt X ξ) W it)) (ok : BlkOk X.N X.env.scope scope own) (hsl : ∀ i ∈ Tg.slots t, i ∈ own.map (·.2))
    (hg : ∀ (s : Shared) (H : Hp) (C : Addr) (cl : List (Str × Addr)) (fp : List Addr), PG (X.blk s H scope (compEnvC scope cl C X.env) fp) tg (Tg.g X.K t))
    (ht : ∀ (s : Shared) (H : Hp) (C : Addr) (cl : List (Str × Addr)) (fp : List Addr), PTs (X.blk s H scope (compEnvC scope cl C X.env) fp) ifs (TB (gt X ξ) W0 c))
    (he : ∀ (s : Shared) (H : Hp) (C : Addr) (cl : List (Str × Addr)) (fp : List Addr), PE (X.blk s H scope (compEnvC scope cl C X.env) fp) elt (TI (gt X ξ) W0 f)) (hs : ∀ x, foldedSetIterable iter X.env x = pure x := by intro _; rfl) :
    PE X (.ListComp elt [⟨tg, iter, ifs, 0⟩] scope pos) (TI (gt X ξ) W (eCompN it t (own.map (·.2)) c f)) :=
  (pe_lc hc hN hi ok hg ht he hs).weak fun _ _ _ h => lc_impN hsl (fun _ _ _ q => q) (fun _ _ _ q => q) h
theorem s_lcN {i : Nat} {y : Str} {py spos : Pos} (hc : X.calm = true) (hN : X.N.Nodup) (hy : X.N[i]? = some y) (hyl : X.env.scope.names.lookup y = some .local)
    (hsw : swapsWith (.ListComp elt [⟨tg, iter, ifs, 0⟩] scope pos) (some (.Name y py)) spos.line X.env = pure true) (hi : PI X tg iter (TIt (gt X ξ) W it)) (ok : BlkOk X.N X.env.scope scope own) (hsl : ∀ i ∈ Tg.slots t, i ∈ own.map (·.2))
    (hg : ∀ (s : Shared) (H : Hp) (C : Addr) (cl : List (Str × Addr)) (fp : List Addr), PG (X.blk s H scope (compEnvC scope cl C X.env) fp) tg (Tg.g X.K t))
    (ht : ∀ (s : Shared) (H : Hp) (C : Addr) (cl : List (Str × Addr)) (fp : List Addr), PTs (X.blk s H scope (compEnvC scope cl C X.env) fp) ifs (TB (gt X ξ) W0 c))
    (he : ∀ (s : Shared) (H : Hp) (C : Addr) (cl : List (Str × Addr)) (fp : List Addr), PE (X.blk s H scope (compEnvC scope cl C X.env) fp) elt (TI (gt X ξ) W0 f)) (hs : ∀ x, foldedSetIterable iter X.env x = pure x := by intro _; rfl) :
    PS X (.Assign [.Name y py] (.ListComp elt [⟨tg, iter, ifs, 0⟩] scope pos) spos) (TS' (gt X ξ) W (sAsg (.nm i) (eCompN it t (own.map (·.2)) c f))) := by
  refine (ps_setLc hc hN hy hyl hsw hi ok hg ht he hs).weak fun D σ H ⟨B, S, ρ, σI, st, R, L, h⟩ => ?_
  have q : TI (gt X ξ) W (eCompN it t (own.map (·.2)) c f) σ H fun x H1 => gName i x σ H1 D.nx := by
    refine ⟨B, S, ρ, σI, st, R, L, (AfterS.sb h L).imp fun x S1 ρ1 st1 H1 s1 R1 h1 w r1 => ?_⟩
    simp only [Tg.st] at h1
    exact h1 S1 ρ1 H1 _ Step.refl R1 ((L.mono s1.s s1.r).set r1 i)
  exact lc_impN hsl (fun _ _ _ q => q) (fun _ _ _ q => q) q
end
theorem eCompN_of {it : II} {t : Tg} {own : List Nat} {c : BI} {f : EI} {σ : Sg} {st st' : Sto} {vs : List Val} (h : eComp it t own c f σ st = .ok (.lst vs) st') : eCompN it t own c f σ st = .ok (.ref st'.length) (st' ++ [.lst vs]) := by
  unfold eComp at h
  unfold eCompN
  cases e : it σ st with
  | ok x st1 =>
    rw [e] at h
    simp only [bind_ok] at h ⊢
    split at h
    · rename_i hh
      rw [if_pos hh]
      cases e2 : compL t own c f x.2 σ x.1 [] st1 with
      | ok acc st2 => rw [e2] at h; simp only [bind_ok] at h ⊢; cases h; rfl
      | er c2 st2 => rw [e2] at h; cases h
      | no => rw [e2] at h; cases h
    · cases h
  | er c2 st2 => rw [e] at h; cases h
  | no => rw [e] at h; cases h
end
end Bd

namespace Bd
noncomputable section
open PySem L2
/-! ## what is never reached: an expression, a test without a meaning -/
def eNo : EI := fun _ _ => .no
def bNo : BI := fun _ _ => .no
section
variable {X : Cx} {ξ : Exo} {W : WX} {e : Expr}
theorem i_no : PE X e (TI (gt X ξ) W eNo) := ⟨fun pins s σ H Q I ⟨B, S, ρ, σI, st, R, L, h⟩ => h.elim⟩
theorem t_no : PT X e (TB (gt X ξ) W bNo) := ⟨fun pins s σ H Q I ⟨B, S, ρ, σI, st, R, L, h⟩ => h.elim⟩
end
@[simp] theorem x_eNo {σ : Sg} {st : Sto} : eNo σ st = .no := rfl
@[simp] theorem x_bNo {σ : Sg} {st : Sto} : bNo σ st = .no := rfl
end
end Bd

/-! ## instances: the rules over the hand layer -/
namespace L2
open PySem PySem.Spec PyProof.Rows
section
variable {X : Cx} {CX : CXT} {x m : Str} {p pos apos : Pos} {e o : Expr} {es : List Expr} {ta : TE} {t : TA} {E : St → XK} {C : Addr} {sp : Sp}
/-- a method as the class has it, with its promise -/
def MethAt (X : Cx) (CX : CXT) (C : Addr) (m : Str) (sp : Sp) : Prop :=
  Cls X.K C ∧ ∃ f fd ps k, Meth X.K C m f ∧ FnOk X.prog X.w X.K X.mg X.base CX k f fd ps sp ∧ Room k X.A ∧ Binds X.K fd ps []
def tMethG (X : Cx) (CX : CXT) (m : Str) (E : St → XK) (ta : TE) (t : TA) : TE := fun σ H Q => ta σ H fun x H1 => ∃ a C dx fs sp, x = .ref a ∧ H1 a = some (.ins C dx fs) ∧ MethAt X CX C m sp ∧ fs.lookup m = none ∧
  t σ H1 fun vs H2 => sp (x :: vs) H2 Q (E σ)
theorem pe_methG {pl : Sem Bool} (he : PE X o ta) (hx : ∀ σ, PassesAt CX X σ (E σ)) (ha : PA X (e :: es) t)
    (hst : starEach (e :: es) X.env = (false, eval e X.env) :: starEach es X.env := by rfl) (hpl : (backTo pos (starEach es X.env)).any (·.1) = false := by rfl)
    (ht : eval (.Call (.Attribute o m apos) (e :: es) [] pos) X.env = (do
      let ov ← eval o X.env
      standAt apos.atName
      let (f, first) ← holding [ov] (getMethod ov m pl)
      callWith pos f first (backTo pos (starEach (e :: es) X.env)) (backToKw pos (keywordEach [] X.env))) := by rfl) :
    PE X (.Call (.Attribute o m apos) (e :: es) [] pos) (tMethG X CX m E ta t) := by
  refine ⟨fun pins s σ H Q I h => ?_⟩
  refine PySem.W.methodCall_KW (pl := pl) (thn (he.run pins s σ H _ I h) fun u s1 ⟨x, H1, I1, rx, a, C, dx, fs, sp, ex, ea, ⟨cl, f, fd, ps, k, hm, F, hr, hb⟩, l, q⟩ => ?_) ht
  subst ex
  obtain rfl : u = Value.ref a := rx
  refine getmeth_ok I1 ea cl hm l ?_
  refine PySem.W.callWith_K (first := [.ref a]) (h₀ := X.base) I.ok.mod.kin hm.kp (thn (ha.run pos pins s1 σ H1 _ I1 q) fun us s2 ⟨vs, H2, I2, r, q2⟩ => ⟨I2.kIn, ?_⟩) hst hpl
  exact run_fnSD (us := .ref a :: us) (vs := .ref a :: vs) (dvs := []) F hr hb .nil (hx σ) I2 (.cons rfl r) (by rw [List.append_nil]; exact q2)
theorem pe_methG0 {pl : Sem Bool} (he : PE X o ta) (hx : ∀ σ, PassesAt CX X σ (E σ))
    (ht : eval (.Call (.Attribute o m apos) [] [] pos) X.env = (do
      let ov ← eval o X.env
      standAt apos.atName
      let (f, first) ← holding [ov] (getMethod ov m pl)
      callWith pos f first (backTo pos (starEach [] X.env)) (backToKw pos (keywordEach [] X.env))) := by rfl) :
    PE X (.Call (.Attribute o m apos) [] [] pos) (tMethG X CX m E ta tNil) := by
  refine ⟨fun pins s σ H Q I h => ?_⟩
  refine PySem.W.methodCall_KW (pl := pl) (thn (he.run pins s σ H _ I h) fun u s1 ⟨x, H1, I1, rx, a, C, dx, fs, sp, ex, ea, ⟨cl, f, fd, ps, k, hm, F, hr, hb⟩, l, q⟩ => ?_) ht
  subst ex
  obtain rfl : u = Value.ref a := rx
  refine getmeth_ok I1 ea cl hm l ?_
  exact PySem.W.callWith_K0 (first := [.ref a]) I1.kIn hm.kp (run_fnSD (us := [.ref a]) (vs := [.ref a]) (dvs := []) F hr hb .nil (hx σ) I1 (.cons rfl .nil) q)
/-- a new instance by its __init__ -/
def tMakeG (C : Addr) (sp : Sp) (E : St → XK) (t : TA) : TE := fun σ H Q => t σ H fun vs H1 => ∀ x dx, H1 x = none → H1 dx = none → dx ≠ x →
  sp (.ref x :: vs) (upd (upd H1 dx (.own x)) x (.ins C dx [])) (fun v H2 => v = .non ∧ Q (.ref x) H2) (E σ)
theorem run_makeSD {f : Addr} {fd : FuncData} {ps : List Str} {k : Nat} {pins : List (Addr × Obj)} {σ : St} {H : Hp} {s : Shared} {Q : VK} {us : List Value} {vs : List V} (M : Mk X.K C f) (F : FnOk X.prog X.w X.K X.mg X.base CX k f fd ps sp) (hr : Room (k + 1) X.A) (hb : Binds X.K fd ps [])
    (hx : PassesAt CX X σ (E σ)) (I : Inv X pins σ H s) (r : Vals vs us)
    (h : ∀ x dx, H x = none → H dx = none → dx ≠ x → sp (.ref x :: vs) (upd (upd H dx (.own x)) x (.ins C dx [])) (fun v H2 => v = .non ∧ Q (.ref x) H2) (E σ)) :
    wpAny (model X.prog X.w) X.A (call (.ref C) us) (EP X pins σ Q) X.xe s := by
  have hq := h (s.heap.objs.size + 1) s.heap.objs.size (I.hok.fresh (Nat.le_succ _)) (I.hok.fresh (Nat.le_refl _)) (Nat.ne_of_lt (Nat.lt_succ_self _))
  have I2 := Inv.made (C := C) I
  have r2 : Vals (V.ref (s.heap.objs.size + 1) :: vs) (Value.ref (s.heap.objs.size + 1) :: us) := .cons rfl r
  have hl : (Value.ref (s.heap.objs.size + 1) :: us).length = ps.length := by
    have e := r2.length
    rw [F.len _ _ _ _ hq] at e
    exact e.symm
  refine wpAny_call (make_map (f := f) I.kIn M.makes M.init (beq_iff_eq.mp M.fn) (codeAny_mono (F.run _ X.stack _ _ ⟨Value.ref (s.heap.objs.size + 1) :: us, []⟩ (Value.ref (s.heap.objs.size + 1) :: us) _ _ (E σ) (hr.make C us [])
    (I2.env0.make C us []) (by have := hb _ (Value.ref (s.heap.objs.size + 1) :: us) I2.kIn (by rw [List.append_nil]; exact hl); rwa [List.append_nil] at this) r2 hq) fun r s' hq' => ?_))
  cases r with
  | error e => exact hx pins _ _ e s' I2 hq'
  | ok fl =>
    cases fl with
    | ret u =>
      obtain ⟨v, H', I3, rv, ev, q3⟩ := I2.after hq'
      subst ev
      exact ⟨rv, ⟨V.ref (s.heap.objs.size + 1), H', I3, rfl, q3⟩⟩
    | next => exact False.elim hq'
    | brk => exact False.elim hq'
    | cont => exact False.elim hq'
theorem pe_makeG {f : Addr} {fd : FuncData} {ps : List Str} {k : Nat} (M : Mk X.K C f) (F : FnOk X.prog X.w X.K X.mg X.base CX k f fd ps sp) (hr : Room (k + 1) X.A) (hg : Gl X x) (hm : X.mg x = some (.ref C)) (hb : Binds X.K fd ps []) (hx : ∀ σ, PassesAt CX X σ (E σ))
    (ha : PA X (e :: es) t) (hdb : (x == ("__debug__" : Str)) = false := by decide) (he : starEach (e :: es) X.env = (false, eval e X.env) :: starEach es X.env := by rfl) (hpl : (backTo pos (starEach es X.env)).any (·.1) = false := by rfl) :
    PE X (.Call (.Name x p) (e :: es) [] pos) (tMakeG C sp E t) := by
  refine ⟨fun pins s σ H Q I h => ?_⟩
  refine wpAny_Call_Name_kw (ld_glob I hg hm ?_ hdb)
  refine PySem.W.callWith_K (h₀ := X.base) I.ok.mod.kin M.kp (thn (ha.run pos pins s σ H _ I h) fun us s1 ⟨vs, H1, I1, r, q⟩ => ⟨I1.kIn, ?_⟩) he hpl
  exact run_makeSD M F hr hb (hx σ) I1 r q
/-- C() where no class of it has an __init__ of its own -/
def tBare (C : Addr) : TE := fun _ H Q => ∀ x dx, H x = none → H dx = none → dx ≠ x → Q (.ref x) (upd (upd H dx (.own x)) x (.ins C dx []))
theorem pe_bare (hmk : PySem.W.makesIn X.K C = true) (hi : PySem.W.findIn X.K (.ref C) "__init__" = some (some (.builtin "object.__init__"))) (kp : PySem.W.keepIn X.K (.ref C) = true) (hg : Gl X x) (hm : X.mg x = some (.ref C))
    (hdb : (x == ("__debug__" : Str)) = false := by decide) : PE X (.Call (.Name x p) [] [] pos) (tBare C) := by
  refine ⟨fun pins s σ H Q I h => ?_⟩
  refine wpAny_Call_Name_kw (ld_glob I hg hm ?_ hdb)
  refine PySem.W.callWith_K0 I.kIn kp (wpAny_call (make_map0 I.kIn hmk hi (fun self => PySem.W.Looks.of_pure (PySem.W.oi_bind self)) ?_))
  have hq := h (s.heap.objs.size + 1) s.heap.objs.size (I.hok.fresh (Nat.le_succ _)) (I.hok.fresh (Nat.le_refl _)) (Nat.ne_of_lt (Nat.lt_succ_self _))
  have I2 := Inv.made (C := C) I
  have Y := PySem.W.makes_of (M := model X.prog X.w) I.kIn hmk
  have e2 : ((s.heap.push PySem.W.emptyDict).push (PySem.W.instObj C s.heap.objs.size)).get? (s.heap.objs.size + 1) = some (PySem.W.instObj C s.heap.objs.size) := by
    have := Heap.get?_push_size (s.heap.push PySem.W.emptyDict) (o := PySem.W.instObj C s.heap.objs.size) rfl
    rwa [Heap.size_push] at this
  have t1 : PySem.W.Looks (model X.prog X.w) ((s.heap.push PySem.W.emptyDict).push (PySem.W.instObj C s.heap.objs.size)) (typeOf (.ref (s.heap.objs.size + 1))) (.ref C) := (PySem.W.Looks.ld e2).andThen .now
  have t2 : PySem.W.Looks (model X.prog X.w) ((s.heap.push PySem.W.emptyDict).push (PySem.W.instObj C s.heap.objs.size)) (isInstance (.ref (s.heap.objs.size + 1)) (.type "object")) true :=
    t1.andThen (Y.top.keeps fun b o e => Heap.get?_push_of_some _ (Heap.get?_push_of_some _ e))
  refine codeAny_call_builtin PySem.W.oi_plain PySem.W.entry_oi (@PySem.W.check_slot (model X.prog X.w) _ _ _ "object.__init__" "object" "__init__" (.ref (s.heap.objs.size + 1)) [] [] _ PySem.W.oi_kind PySem.W.oi_split t2 (PySem.W.oi_args (.ref (s.heap.objs.size + 1))) ?_)
  rw [PySem.W.oi_run]
  exact wpAny_pure (And.intro rfl ⟨V.ref (s.heap.objs.size + 1), _, I2, rfl, hq⟩)
end
end L2

namespace Bd
noncomputable section
open PySem L2
/-! ## instances in the small machine: fields -/
def insOf (st : Sto) : Val → Option (Str × List (Str × Val))
  | .ins c fs => some (c, fs)
  | .ref i => match st[i]? with
    | some (.ins c fs) => some (c, fs)
    | _ => none
  | _ => none
section
variable {G : Gt} {B S : Hp} {ρ : List Addr} {st : Sto} {H : Hp}
theorem insOf_get (R : HR G B S ρ st H) {v : Val} {w : V} {c : Str} {fs : List (Str × Val)} (r : RV G S ρ v w) (e : insOf st v = some (c, fs)) : ∃ p C dx ws, w = .ref p ∧ H p = some (.ins C dx ws) ∧ G.mg c = some (.ref C) ∧ RFs G S ρ fs ws := by
  cases r with
  | ins a b d => cases e; exact ⟨_, _, _, _, rfl, R.s _ _ a, b, d⟩
  | @ref i p a =>
    simp only [insOf] at e
    split at e
    · rename_i c' fs' hb
      cases e
      obtain ⟨C, dx, ws, h1, h2, h3⟩ := R.ob i p _ a hb
      exact ⟨p, C, dx, ws, rfl, h1, h2, h3⟩
    · cases e
  | _ => cases e
theorem RFs.length {fs : List (Str × Val)} {ws : List (Str × V)} (r : RFs G S ρ fs ws) : fs.length = ws.length := by
  induction fs generalizing ws with
  | nil => cases r; rfl
  | cons v vs ih => cases r with | cons a b => simp [ih b]
theorem RFs.look {f : Str} {fs : List (Str × Val)} {ws : List (Str × V)} (r : RFs G S ρ fs ws) : (∀ v, fs.lookup f = some v → ∃ w, ws.lookup f = some w ∧ RV G S ρ v w) ∧ (fs.lookup f = none → ws.lookup f = none) := by
  induction fs generalizing ws with
  | nil => cases r; exact ⟨fun v e => by simp at e, fun _ => rfl⟩
  | cons v vs ih =>
    cases r with
    | @cons g v vs w ws a b =>
      by_cases h : f = g
      · subst h
        refine ⟨fun x e => ?_, fun e => ?_⟩
        · simp at e; subst e; exact ⟨w, by simp, a⟩
        · simp at e
      · have hb : (f == g) = false := beq_eq_false_iff_ne.mpr h
        simp only [List.lookup, hb]
        exact ih b
def putV (f : Str) (v : Val) : List (Str × Val) → List (Str × Val)
  | [] => [(f, v)]
  | (g, x) :: r => if g = f then (g, v) :: r else (g, x) :: putV f v r
theorem RFs.put {f : Str} {v : Val} {w : V} (q : RV G S ρ v w) : ∀ {fs : List (Str × Val)} {ws : List (Str × V)}, RFs G S ρ fs ws → RFs G S ρ (putV f v fs) (L2.putF f w ws)
  | _, _, .nil => .cons q .nil
  | _, _, @RFs.cons _ _ _ g x fs y ws a b => by
    show RFs G S ρ (if g = f then (g, v) :: fs else (g, x) :: putV f v fs) (if g = f then (g, w) :: ws else (g, y) :: L2.putF f w ws)
    by_cases h : g = f
    · rw [if_pos h, if_pos h]; exact .cons q b
    · rw [if_neg h, if_neg h]; exact .cons a (RFs.put q b)
end
/-- the classes that are known, with their fields' names -/
def CTab (K : PySem.W.Frag) (mg : Str → Option Value) (tab : List (Str × List Str)) : Prop := ∀ c C ns, tab.lookup c = some ns → mg c = some (.ref C) → Cls K C ∧ ∀ f, ns.contains f = true → NoAttr K C f
def fldOk (tab : List (Str × List Str)) (c f : Str) : Bool := match tab.lookup c with
  | some ns => ns.contains f
  | none => false
theorem CTab.ok {K : PySem.W.Frag} {mg : Str → Option Value} {tab : List (Str × List Str)} (h : CTab K mg tab) {c f : Str} {C : Addr} (e : fldOk tab c f = true) (m : mg c = some (.ref C)) : Cls K C ∧ NoAttr K C f := by
  unfold fldOk at e
  split at e
  · rename_i ns hn
    obtain ⟨a, b⟩ := h c C ns hn m
    exact ⟨a, b f e⟩
  · cases e
def eFld (tab : List (Str × List Str)) (f : Str) (fo : EI) : EI := fun σ st => (fo σ st).bind fun v st1 => match insOf st1 v with
  | some (c, fs) => if fldOk tab c f = true then (match fs.lookup f with
    | some x => .ok x st1
    | none => .no) else .no
  | none => .no
section
variable {X : Cx} {ξ : Exo} {W : WX} {o e value : Expr} {fo fe : EI} {f : Str} {tab : List (Str × List Str)} {pos pos' tpos : Pos}
theorem i_fld (hT : CTab X.K X.mg tab) (ho : PE X o (TI (gt X ξ) W fo)) (hb : attributeBase o f X.env (eval o X.env) = eval o X.env := by rfl) : PE X (.Attribute o f pos) (TI (gt X ξ) W (eFld tab f fo)) := by
  refine (pe_fld ho hb).weak fun σ H Q ⟨B, S, ρ, σI, st, R, L, h⟩ => ?_
  unfold eFld at h
  refine ⟨B, S, ρ, σI, st, R, L, (After.bind h).imp fun v S1 ρ1 st1 H1 s1 R1 h1 w1 r1 => ?_⟩
  split at h1
  · rename_i c fs hi
    obtain ⟨p, C, dx, ws, rfl, hp, hc, rf⟩ := insOf_get R1 r1 hi
    split at h1
    · rename_i hk
      obtain ⟨cl, na⟩ := hT.ok hk hc
      split at h1
      · rename_i x hx
        obtain ⟨w, hw, rw'⟩ := rf.look.1 x hx
        exact ⟨p, C, dx, ws, w, rfl, hp, cl, na, hw, h1.here R1 w rw'⟩
      · exact h1.elim
    · exact h1.elim
  · exact h1.elim
def sSetF (tab : List (Str × List Str)) (f : Str) (fo fe : EI) : SI := fun σ st => sb (fe σ st) σ fun y st1 => sb (fo σ st1) σ fun v st2 => match v with
  | .ref i => match st2[i]? with
    | some (.ins c fs) => if fldOk tab c f = true ∧ fs.length < 1000 then .nx σ (st2.set i (.ins c (putV f y fs))) else .no
    | _ => .no
  | _ => .no
theorem s_setf (hT : CTab X.K X.mg tab) (ho : PE X o (TI (gt X ξ) W fo)) (he : PE X e (TI (gt X ξ) W fe)) (hs : swapsWith e (some (.Attribute o f pos')) pos.line X.env = pure false := by rfl) :
    PS X (.Assign [.Attribute o f pos'] e pos) (TS' (gt X ξ) W (sSetF tab f fo fe)) := by
  refine (ps_fld ho he hs).weak fun D σ H ⟨B, S, ρ, σI, st, R, L, h⟩ => ?_
  refine ⟨B, S, ρ, σI, st, R, L, (AfterS.sb h L).imp fun y S1 ρ1 st1 H1 s1 R1 h1 w1 r1 => ?_⟩
  have L1 := L.mono s1.s s1.r
  refine ⟨B, S1, ρ1, σI, st1, R1, L1, (AfterS.sb h1 L1).imp fun v S2 ρ2 st2 H2 s2 R2 h2 w2 r2 => ?_⟩
  have L2' := L1.mono s2.s s2.r
  split at h2
  · rename_i i
    cases r2 with
    | @ref _ p a =>
      split at h2
      · rename_i c fs hi
        split at h2
        · rename_i hk
          obtain ⟨C, dx, ws, hp, hc, rf⟩ := R2.ob i p _ a hi
          obtain ⟨cl, na⟩ := hT.ok hk.1 hc
          refine ⟨p, C, dx, ws, rfl, hp, cl, na, by rw [← rf.length]; exact hk.2, ?_⟩
          exact h2 S2 ρ2 _ σ Step.refl (R2.put a ⟨C, dx, _, upd_same, hc, rf.put (r1.mono s2.s s2.r)⟩) L2'
        · exact h2.elim
      · exact h2.elim
  · exact h2.elim
/-- self.f += e, whole numbers -/
def sAugF (tab : List (Str × List Str)) (f : Str) (fo fe : EI) : SI := fun σ st => sb (fo σ st) σ fun v st1 => match v with
  | .ref i => match st1[i]? with
    | some (.ins c fs) => match fs.lookup f with
      | some (.int a) => if fldOk tab c f = true then sb (fe σ st1) σ fun y st2 => (match y with
        | .int b => match st2[i]? with
          | some (.ins c' fs') => if c' = c ∧ fs'.length < 1000 then .nx σ (st2.set i (.ins c' (putV f (.int (a + b)) fs'))) else .no
          | _ => .no
        | _ => .no) else .no
      | _ => .no
    | _ => .no
  | _ => .no
theorem s_augf (hT : CTab X.K X.mg tab) (ho : PE X o (TI (gt X ξ) W fo)) (he : PE X e (TI (gt X ξ) W fe)) : PS X (.AugAssign (.Attribute o f tpos) .Add e pos) (TS' (gt X ξ) W (sAugF tab f fo fe)) := by
  refine (ps_fldaug ho he in_add).weak fun D σ H ⟨B, S, ρ, σI, st, R, L, h⟩ => ?_
  refine ⟨B, S, ρ, σI, st, R, L, (AfterS.sb h L).imp fun v S1 ρ1 st1 H1 s1 R1 h1 w1 r1 => ?_⟩
  have L1 := L.mono s1.s s1.r
  split at h1
  · rename_i i
    cases r1 with
    | @ref _ p a =>
      split at h1
      · rename_i c fs hi
        obtain ⟨C, dx, ws, hp, hc, rf⟩ := R1.ob i p _ a hi
        split at h1
        · rename_i n hn
          split at h1
          · rename_i hk
            obtain ⟨cl, na⟩ := hT.ok hk hc
            obtain ⟨w, hw, rw'⟩ := rf.look.1 _ hn
            cases rw'
            refine ⟨p, C, dx, ws, _, rfl, hp, cl, na, hw, B, S1, ρ1, σI, st1, R1, L1, (AfterS.sb h1 L1).imp fun y S2 ρ2 st2 H2 s2 R2 h2 w2 r2 => ?_⟩
            have L2' := L1.mono s2.s s2.r
            have a2 := pre_get s2.r a
            split at h2
            · rename_i b
              cases r2
              split at h2
              · rename_i c' fs' hi'
                split at h2
                · rename_i hq
                  obtain ⟨C', dx', ws', hp', hc', rf'⟩ := R2.ob i p _ a2 hi'
                  obtain ⟨rfl, hq⟩ := hq
                  have e := hc.symm.trans hc'
                  cases e
                  refine ⟨_, _, rfl, rfl, dx', ws', hp', by rw [← rf'.length]; exact hq, ?_⟩
                  exact h2 S2 ρ2 _ σ Step.refl (R2.put a2 ⟨C, dx', _, upd_same, hc', rf'.put (.int _)⟩) L2'
                · exact h2.elim
              · exact h2.elim
            · exact h2.elim
          · exact h1.elim
        · exact h1.elim
      · exact h1.elim
  · exact h1.elim
end
@[simp] theorem ins_ins {st : Sto} {c : Str} {fs : List (Str × Val)} : insOf st (.ins c fs) = some (c, fs) := rfl
@[simp] theorem ins_ref {st : Sto} {i : Nat} : insOf st (.ref i) = match st[i]? with
  | some (.ins c fs) => some (c, fs)
  | _ => none := rfl
@[simp] theorem x_eFld {tab : List (Str × List Str)} {f : Str} {fo : EI} {σ : Sg} {st : Sto} : eFld tab f fo σ st = (fo σ st).bind fun v st1 => match insOf st1 v with
  | some (c, fs) => if fldOk tab c f = true then (match fs.lookup f with
    | some x => .ok x st1
    | none => .no) else .no
  | none => .no := rfl
@[simp] theorem x_sSetF {tab : List (Str × List Str)} {f : Str} {fo fe : EI} {σ : Sg} {st : Sto} : sSetF tab f fo fe σ st = sb (fe σ st) σ fun y st1 => sb (fo σ st1) σ fun v st2 => match v with
  | .ref i => match st2[i]? with
    | some (.ins c fs) => if fldOk tab c f = true ∧ fs.length < 1000 then .nx σ (st2.set i (.ins c (putV f y fs))) else .no
    | _ => .no
  | _ => .no := rfl
@[simp] theorem x_sAugF {tab : List (Str × List Str)} {f : Str} {fo fe : EI} {σ : Sg} {st : Sto} : sAugF tab f fo fe σ st = sb (fo σ st) σ fun v st1 => match v with
  | .ref i => match st1[i]? with
    | some (.ins c fs) => match fs.lookup f with
      | some (.int a) => if fldOk tab c f = true then sb (fe σ st1) σ fun y st2 => (match y with
        | .int b => match st2[i]? with
          | some (.ins c' fs') => if c' = c ∧ fs'.length < 1000 then .nx σ (st2.set i (.ins c' (putV f (.int (a + b)) fs'))) else .no
          | _ => .no
        | _ => .no) else .no
      | _ => .no
    | _ => .no
  | _ => .no := rfl
end
end Bd

namespace Bd
noncomputable section
open PySem L2
section
variable {G : Gt} {B S : Hp} {ρ : List Addr} {st : Sto} {H : Hp}
theorem HR.out (R : HR G B S ρ st H) {p : Addr} (hp : H p = none) : p ∉ ρ := fun hm => by
  obtain ⟨i, hi, q⟩ := List.mem_iff_getElem.mp hm
  obtain ⟨o, ho⟩ := R.inS (i := i) (p := p) (by rw [List.getElem?_eq_getElem hi, q])
  rw [hp] at ho; cases ho
theorem HR.newO (R : HR G B S ρ st H) {p : Addr} (hp : H p = none) {o : HO} {ob : Ob} (hob : ObR G S (ρ ++ [p]) (upd H p o) p ob) : HR G B S (ρ ++ [p]) (st ++ [ob]) (upd H p o) ∧ Step B S ρ S (ρ ++ [p]) := by
  have sH : Same H (upd H p o) := fun b u e => by rw [upd_ne (ne_of_none e hp)]; exact e
  have hS : S p = none := R.s.free hp
  have hB : B p = none := R.b.free hp
  have pr : ρ <+: ρ ++ [p] := List.prefix_append _ _
  have nin : p ∉ ρ := R.out hp
  refine ⟨⟨R.b.trans sH, R.s.trans sH, ?_, by simp [R.len], fun i q hq => ?_, fun i q ob' h1 h2 => ?_⟩, ⟨Same.refl _, pr, fun q h => .inl h⟩⟩
  · exact List.nodup_append.mpr ⟨R.nd, by simp, fun a ha b hb => by simp at hb; subst hb; rintro rfl; exact nin ha⟩
  · by_cases hi : i < ρ.length
    · rw [List.getElem?_append_left hi] at hq; exact R.fr i q hq
    · rw [List.getElem?_append_right (by omega)] at hq
      have : i - ρ.length = 0 := by
        by_cases h0 : i - ρ.length = 0
        · exact h0
        · rw [List.getElem?_eq_none (by simp; omega)] at hq; cases hq
      rw [this] at hq; simp at hq; subst hq; exact ⟨hS, hB⟩
  · by_cases hi : i < ρ.length
    · rw [List.getElem?_append_left hi] at h1
      rw [List.getElem?_append_left (by rw [← R.len]; exact hi)] at h2
      exact (R.ob i q ob' h1 h2).mono (Same.refl _) pr (sH q)
    · rw [List.getElem?_append_right (by omega)] at h1
      have h0 : i - ρ.length = 0 := by
        by_cases h0 : i - ρ.length = 0
        · exact h0
        · rw [List.getElem?_eq_none (by simp; omega)] at h1; cases h1
      rw [h0] at h1; simp at h1; subst h1
      rw [List.getElem?_append_right (by rw [← R.len]; omega), ← R.len, h0] at h2
      simp at h2; subst h2
      exact hob
theorem HR.newI (R : HR G B S ρ st H) {x dx C : Addr} {c : Str} (hx : H x = none) (hd : H dx = none) (ne : dx ≠ x) (hc : G.mg c = some (.ref C)) :
    HR G B S (ρ ++ [x]) (st ++ [.ins c []]) (upd (upd H dx (.own x)) x (.ins C dx [])) ∧ Step B S ρ S (ρ ++ [x]) :=
  (R.aside (o := .own x) (R.s.free hd) (R.b.free hd) (R.out hd)).newO (by rw [upd_ne ne.symm]; exact hx) ⟨C, dx, [], upd_same, hc, .nil⟩
end
/-! ### making -/
def eMakeI (c : Str) (F : FI) (r : AI) : EI := fun σ st => (r σ st).bind fun vs st1 => match F (.ref st1.length :: vs) (st1 ++ [.ins c []]) with
  | .ok .non st2 => .ok (.ref st1.length) st2
  | .ok _ _ => .no
  | .er e st2 => .er e st2
  | .no => .no
def eMakeF (c : Str) (F : FI) (r : AI) : EI := fun σ st => (r σ st).bind fun vs st1 => if flats vs = true then (match F (.ref 0 :: vs) [.ins c []] with
  | .ok .non st2 => (match rd st2 12 (.ref 0) with
    | some d => .ok d st1
    | none => .no)
  | .ok _ _ => .no
  | .er e _ => .er e st1
  | .no => .no) else .no
def eBare (c : Str) : EI := fun _ st => .ok (.ins c []) st
/-- what is known of a class's __init__ -/
def KnI (P : Program) (w : World) (K : PySem.W.Frag) (mg : Str → Option Value) (base : Heap) (c : Str) (k n : Nat) (F : FI) : Prop :=
  ∃ C f fd ps, ps.length = n ∧ mg c = some (.ref C) ∧ Mk K C f ∧ FnOk P w K mg base (L2N.CX P w) k f fd ps (spI ⟨K, mg, none⟩ n F) ∧ Binds K fd ps []
/-- a class without one -/
def KnB (K : PySem.W.Frag) (mg : Str → Option Value) (c : Str) : Prop :=
  ∃ C, mg c = some (.ref C) ∧ PySem.W.makesIn K C = true ∧ PySem.W.findIn K (.ref C) "__init__" = some (some (.builtin "object.__init__")) ∧ PySem.W.keepIn K (.ref C) = true
section
variable {X : Cx} {ξ : Exo} {W : WX} {o e : Expr} {es : List Expr} {fo : EI} {r : AI} {F : FI} {j k n : Nat} {c m : Str} {p pos apos : Pos}
theorem passes_w (tk : L2N.Takes X W) : ∀ σ, PassesAt (L2N.CX X.prog X.w) X σ ((fun σ cls d H => W cls d σ H) σ) := fun σ pins H s e s' I c => tk _ _ (L2N.XE.of_call (W := W) I (fun cls d H' h => h) c)
theorem i_bare (h : KnB X.K X.mg c) (hg : Gl X c) (hdb : (c == ("__debug__" : Str)) = false := by decide) : PE X (.Call (.Name c p) [] [] pos) (TI (gt X ξ) W (eBare c)) := by
  obtain ⟨C, hm, h1, h2, h3⟩ := h
  refine (pe_bare h1 h2 h3 hg hm hdb).weak fun σ H Q ⟨B, S, ρ, σI, st, R, L, h⟩ x dx hx hd ne => ?_
  have R1 := R.aside (o := .own x) (R.s.free hd) (R.b.free hd) (R.out hd)
  obtain ⟨R2, s2⟩ := R1.fix (p := x) (by rw [upd_ne ne.symm]; exact hx) (.ins C dx [])
  exact h _ _ _ s2 R2 _ (.ins upd_same hm .nil)
theorem i_makeI (h : KnI X.prog X.w X.K X.mg X.base c k n F) (tk : L2N.Takes X W) (hr : Room j X.A) (hj : k + 1 ≤ j) (hg : Gl X c) (ha : PA X (e :: es) (TL (gt X none) W r)) (hal : AI.len r (es.length + 1)) (hlen : es.length + 2 = n)
    (hdb : (c == ("__debug__" : Str)) = false := by decide) (he : starEach (e :: es) X.env = (false, eval e X.env) :: starEach es X.env := by rfl) (hpl : (backTo pos (starEach es X.env)).any (·.1) = false := by rfl) :
    PE X (.Call (.Name c p) (e :: es) [] pos) (TI (gt X none) W (eMakeI c F r)) := by
  obtain ⟨C, f, fd, ps, hps, hm, M, D, hb⟩ := h
  refine (pe_makeG M D (hr.mono hj) hg hm hb (passes_w tk) ha hdb he hpl).weak fun σ H Q ⟨B, S, ρ, σI, st, R, L, h⟩ => ?_
  refine ⟨B, S, ρ, σI, st, R, L, ?_⟩
  unfold eMakeI at h
  have h2 := After.bind h
  revert h2
  cases e1 : r σI st with
  | ok vs st1 =>
    intro h2 S1 ρ1 H1 s1 R1 ws r1 x dx hx hd ne
    have h3 := h2 S1 ρ1 H1 s1 R1
    dsimp only at h3
    obtain ⟨R2, s2⟩ := R1.newI hx hd ne hm
    have hi : (ρ1 ++ [x])[st1.length]? = some x := by rw [← R1.len]; simp
    refine ⟨by rw [List.length_cons, ← r1.length, hal _ _ _ _ e1]; omega, B, S1, ρ1 ++ [x], st1 ++ [.ins c []], .ref st1.length :: vs, R2, .cons (.ref hi) (r1.mono s2.s s2.r), ?_⟩
    revert h3
    cases F (.ref st1.length :: vs) (st1 ++ [.ins c []]) with
    | ok v st2 =>
      intro h3 S' ρ' H' w s R' r'
      cases v with
      | non =>
        cases r'
        exact ⟨rfl, h3 S' ρ' H' (s2.trans s) R' _ (.ref (pre_get s.r hi))⟩
      | _ => exact h3.elim
    | er c' st2 => exact fun h3 S' ρ' H' C' s R' m => h3 S' ρ' H' C' (s2.trans s) R' m
    | no => exact fun h3 => h3
  | er c' st1 => exact fun h2 => h2
  | no => exact fun h2 => h2
theorem i_makeF (h : KnI X.prog X.w X.K X.mg X.base c k n F) (tk : L2N.Takes X W) (hr : Room j X.A) (hj : k + 1 ≤ j) (hg : Gl X c) (ha : PA X (e :: es) (TL (gt X none) W r)) (hal : AI.len r (es.length + 1)) (hlen : es.length + 2 = n)
    (hdb : (c == ("__debug__" : Str)) = false := by decide) (he : starEach (e :: es) X.env = (false, eval e X.env) :: starEach es X.env := by rfl) (hpl : (backTo pos (starEach es X.env)).any (·.1) = false := by rfl) :
    PE X (.Call (.Name c p) (e :: es) [] pos) (TI (gt X none) W (eMakeF c F r)) := by
  obtain ⟨C, f, fd, ps, hps, hm, M, D, hb⟩ := h
  refine (pe_makeG M D (hr.mono hj) hg hm hb (passes_w tk) ha hdb he hpl).weak fun σ H Q ⟨B, S, ρ, σI, st, R, L, h⟩ => ?_
  refine ⟨B, S, ρ, σI, st, R, L, ?_⟩
  unfold eMakeF at h
  have h2 := After.bind h
  revert h2
  cases e1 : r σI st with
  | ok vs st1 =>
    intro h2 S1 ρ1 H1 s1 R1 ws r1 x dx hx hd ne
    have h3 := h2 S1 ρ1 H1 s1 R1
    dsimp only at h3
    split at h3
    · rename_i hf
      have R0 : HR (gt X none) H1 S1 [] [] H1 := ⟨Same.refl _, R1.s, by simp, rfl, fun i p h => by simp at h, fun i p o h => by simp at h⟩
      obtain ⟨R2, s2⟩ := R0.newI hx hd ne hm
      refine ⟨by rw [List.length_cons, ← r1.length, hal _ _ _ _ e1]; omega, H1, S1, [x], [.ins c []], .ref 0 :: vs, R2, .cons (.ref rfl) (r1.flat hf), ?_⟩
      revert h3
      cases F (.ref 0 :: vs) [.ins c []] with
      | ok v st2 =>
        intro h3 S' ρ' H' w s R' r'
        obtain ⟨b1, b2⟩ := back_pure R1 (s2.trans s) R'
        cases v with
        | non =>
          cases r'
          dsimp only at h3
          split at h3
          · rename_i d hd2
            exact ⟨rfl, h3 _ _ _ b1 b2 (.ref x) ((rd_all R' 12).1 (.ref 0) d (.ref x) hd2 (.ref (pre_get s.r rfl)))⟩
          · exact h3.elim
        | _ => exact h3.elim
      | er c' st2 =>
        intro h3 S' ρ' H' C' s R' m
        obtain ⟨b1, b2⟩ := back_pure R1 (s2.trans s) R'
        exact h3 _ _ _ C' b1 b2 m
      | no => exact fun h3 => h3
    · exact h3.elim
  | er c' st1 => exact fun h2 => h2
  | no => exact fun h2 => h2
end
@[simp] theorem x_eMakeI {c : Str} {F : FI} {r : AI} {σ : Sg} {st : Sto} : eMakeI c F r σ st = (r σ st).bind fun vs st1 => match F (.ref st1.length :: vs) (st1 ++ [.ins c []]) with
  | .ok .non st2 => .ok (.ref st1.length) st2
  | .ok _ _ => .no
  | .er e st2 => .er e st2
  | .no => .no := rfl
@[simp] theorem x_eMakeF {c : Str} {F : FI} {r : AI} {σ : Sg} {st : Sto} : eMakeF c F r σ st = (r σ st).bind fun vs st1 => if flats vs = true then (match F (.ref 0 :: vs) [.ins c []] with
  | .ok .non st2 => (match rd st2 12 (.ref 0) with
    | some d => .ok d st1
    | none => .no)
  | .ok _ _ => .no
  | .er e _ => .er e st1
  | .no => .no) else .no := rfl
@[simp] theorem x_eBare {c : Str} {σ : Sg} {st : Sto} : eBare c σ st = .ok (.ins c []) st := rfl
end
end Bd

namespace Bd
noncomputable section
open PySem L2
/-! ### a call by values alone, apart -/
def callP (F : FI) (us : List Val) (st1 : Sto) : Out Val := if flats us = true then (match pure' F us with
  | .ok v _ => .ok v st1
  | .er c _ => .er c st1
  | .no => .no) else (match rds st1 12 us with
  | some ds => match pure' F ds with
    | .ok v _ => if tight v = true then .ok v st1 else .no
    | .er c _ => .er c st1
    | .no => .no
  | none => .no)
/-- the store with its first object put out of sight -/
def hide (st : Sto) : Sto := st.set 0 (.lst [.scr []])
/-- a call on an object of the store by values: its fields and the arguments flat; its new fields are read back -/
def callObj (F : FI) (v : Val) (vs : List Val) (st2 : Sto) : Out Val := match v with
  | .ref i => match st2[i]? with
    | some (Ob.ins c fs) => if flatf fs = true ∧ flats vs = true then (match F (.ref 0 :: vs) [.ins c fs] with
      | .ok u st' => match rd (hide st') 12 u, st'[0]? with
        | some d, some (Ob.ins c' fs') => (match rdf (hide st') 12 fs' with
          | some ds => .ok d (st2.set i (.ins c' ds))
          | none => .no)
        | _, _ => .no
      | .er e st' => match st'[0]? with
        | some (Ob.ins c' fs') => (match rdf (hide st') 12 fs' with
          | some ds => .er e (st2.set i (.ins c' ds))
          | none => .no)
        | _ => .no
      | .no => .no) else .no
    | _ => .no
  | _ => callP F (v :: vs) st2
def fzp (S : Hp) (ρ : List Addr) (p0 : Addr) (H : Hp) : Hp := fun p => open Classical in if p ∈ ρ ∧ p ≠ p0 then H p else S p
section
variable {G : Gt} {W : WX} {B S : Hp} {ρ ρ1 : List Addr} {st : Sto} {H : Hp} {σ : St} {Q : VK} {n : Nat} {F : FI}
theorem callP_core {us : List Val} {ws : List V} (R1 : HR G B S ρ st H) (r1 : RVs G S ρ us ws) (hlen : us.length = n) (h3 : After G W B S ρ σ (callP F us st) fun v S' ρ' _ H' => ∀ w, RV G S' ρ' v w → Q w H') :
    spI G n F ws H Q (fun cls d H => W cls d σ H) := by
  unfold callP at h3
  split at h3
  · rename_i hf
    have R0 : HR G H S [] [] H := ⟨Same.refl _, R1.s, by simp, rfl, fun i p h => by simp at h, fun i p o h => by simp at h⟩
    refine ⟨by rw [← r1.length]; exact hlen, H, S, [], [], us, R0, r1.flat hf, ?_⟩
    unfold pure' at h3
    revert h3
    cases F us [] with
    | ok v st2 =>
      intro h3 S' ρ' H' w s R' r'
      dsimp only at h3
      cases e2 : rd st2 12 v with
      | none => rw [e2] at h3; exact h3.elim
      | some d =>
        rw [e2] at h3
        obtain ⟨b1, b2⟩ := back_pure R1 s R'
        exact h3 _ _ _ b1 b2 w ((rd_all R' 12).1 v d w e2 r')
    | er c st2 =>
      intro h3 S' ρ' H' C s R' m
      obtain ⟨b1, b2⟩ := back_pure R1 s R'
      exact h3 _ _ _ C b1 b2 m
    | no => exact fun h3 => h3.elim
  · cases e5 : rds st 12 us with
    | none => rw [e5] at h3; exact h3.elim
    | some ds =>
      rw [e5] at h3
      dsimp only at h3
      have r5 := (rd_all (ρ1 := []) R1 12).2.1 _ _ _ e5 r1
      refine ⟨by rw [← r1.length]; exact hlen, H, fz S ρ H, [], [], ds, R1.frozen, r5, ?_⟩
      unfold pure' at h3
      revert h3
      cases F ds [] with
      | ok v st2 =>
        intro h3 S' ρ' H' w s R' r'
        dsimp only at h3
        cases e2 : rd st2 12 v with
        | none => rw [e2] at h3; exact h3.elim
        | some d =>
          rw [e2] at h3
          dsimp only at h3
          split at h3
          · rename_i ht
            obtain ⟨b1, b2, b3⟩ := back_read R1 s R'
            exact h3 _ _ _ b1 b2 w (RV.tight b3 ((rd_all (ρ1 := ρ) R' 12).1 v d w e2 r') ht)
          · exact h3.elim
      | er c st2 =>
        intro h3 S' ρ' H' C s R' m
        obtain ⟨b1, b2, _⟩ := back_read R1 s R'
        exact h3 _ _ _ C b1 b2 m
      | no => exact fun h3 => h3.elim
theorem fzp_in {p p0 : Addr} (h : p ∈ ρ) (h' : p ≠ p0) : fzp S ρ p0 H p = H p := by unfold fzp; rw [if_pos ⟨h, h'⟩]
theorem fzp_out {p p0 : Addr} (h : p ∉ ρ) : fzp S ρ p0 H p = S p := by unfold fzp; rw [if_neg fun z => h z.1]
theorem fzp_own {p0 : Addr} : fzp S ρ p0 H p0 = S p0 := by unfold fzp; rw [if_neg fun z => z.2 rfl]
theorem rd_scr {st : Sto} {vs : List Val} : ∀ n, rd st n (.scr vs) = none
  | 0 => by simp [rd]
  | _ + 1 => by simp [rd]
theorem hide_get {st : Sto} {i : Nat} {o : Ob} (e : (hide st)[i]? = some o) : (i = 0 ∧ o = .lst [.scr []]) ∨ (i ≠ 0 ∧ st[i]? = some o) := by
  unfold hide at e
  by_cases h : i = 0
  · subst h
    by_cases hl : 0 < st.length
    · rw [List.getElem?_set_self hl] at e; cases e; exact .inl ⟨rfl, rfl⟩
    · rw [List.getElem?_eq_none (by rw [List.length_set]; omega)] at e; cases e
  · rw [List.getElem?_set_ne (Ne.symm h)] at e; exact .inr ⟨h, e⟩
/-- reading a store whose first object is out of sight: everything else is fixed -/
theorem rd_hide (R : HR G B S ρ st H) {p0 : Addr} (h0 : ρ[0]? = some p0) : ∀ n, (∀ v d w, rd (hide st) n v = some d → RV G S ρ v w → RV G (fzp S ρ p0 H) ρ1 d w) ∧ (∀ vs ds ws, rds (hide st) n vs = some ds → RVs G S ρ vs ws → RVs G (fzp S ρ p0 H) ρ1 ds ws) ∧ (∀ vs ds ws, rdf (hide st) n vs = some ds → RFs G S ρ vs ws → RFs G (fzp S ρ p0 H) ρ1 ds ws) := by
  intro n
  induction n with
  | zero =>
    refine ⟨fun v d w e _ => by simp [rd] at e, fun vs ds ws e r => ?_, fun vs ds ws e r => ?_⟩
    · cases r with
      | nil => simp [rds] at e; subst e; exact .nil
      | cons _ _ => simp [rds] at e
    · cases r with
      | nil => simp [rdf] at e; subst e; exact .nil
      | cons _ _ => simp [rdf] at e
  | succ n ih =>
    obtain ⟨ih1, ih2, ih3⟩ := ih
    have old : ∀ {p o}, S p = some o → fzp S ρ p0 H p = some o := fun {p o} e => by rw [fzp_out (R.notin e)]; exact e
    refine ⟨fun v d w e r => ?_, fun vs => ?_, fun vs => ?_⟩
    · cases r with
      | tup a b =>
        simp only [rd] at e
        obtain ⟨ds, e1, rfl⟩ := Option.map_eq_some_iff.mp e
        exact .tup (old a) (ih2 _ _ _ e1 b)
      | lst a b =>
        simp only [rd] at e
        obtain ⟨ds, e1, rfl⟩ := Option.map_eq_some_iff.mp e
        exact .lst (old a) (ih2 _ _ _ e1 b)
      | scr a b => simp [rd] at e
      | @ref ix p a =>
        have hp : p ∈ ρ := List.mem_of_getElem? a
        simp only [rd] at e
        split at e
        · rename_i us hu
          rcases hide_get hu with ⟨rfl, hq⟩ | ⟨hne, hq⟩
          · cases hq
            cases n with
            | zero => simp [rds] at e
            | succ n => simp [rds, rd_scr] at e
          · obtain ⟨ds, e1, rfl⟩ := Option.map_eq_some_iff.mp e
            obtain ⟨ws, h1, h2⟩ := R.get a hq
            exact .lst (by rw [fzp_in hp (R.ne_of_ix hne a h0)]; exact h1) (ih2 _ _ _ e1 h2)
        · rename_i c fs hu
          rcases hide_get hu with ⟨rfl, hq⟩ | ⟨hne, hq⟩
          · cases hq
          · obtain ⟨ds, e1, rfl⟩ := Option.map_eq_some_iff.mp e
            obtain ⟨C, dx, ws, h1, h2, h3⟩ := R.ob ix p _ a hq
            exact .ins (by rw [fzp_in hp (R.ne_of_ix hne a h0)]; exact h1) h2 (ih3 _ _ _ e1 h3)
        · cases e
      | ins a b c =>
        simp only [rd] at e
        obtain ⟨ds, e1, rfl⟩ := Option.map_eq_some_iff.mp e
        exact .ins (old a) b (ih3 _ _ _ e1 c)
      | non => simp [rd] at e; subst e; exact .non
      | bl b => simp [rd] at e; subst e; exact .bl b
      | int i => simp [rd] at e; subst e; exact .int i
      | str i => simp [rd] at e; subst e; exact .str i
      | dct a => simp [rd] at e; subst e; exact .dct (old a)
      | ty t => simp [rd] at e; subst e; exact .ty t
      | ex t => simp [rd] at e; subst e; exact .ex t
      | gl a b => simp [rd] at e; subst e; exact .gl a b
    · induction vs with
      | nil => intro ds ws e r; cases r; simp [rds] at e; subst e; exact .nil
      | cons v vs ihv =>
        intro ds ws e r
        cases r with
        | cons r1 r2 =>
          simp only [rds] at e
          split at e
          · rename_i d ds' e1 e2
            cases e
            exact .cons (ih1 _ _ _ e1 r1) (ihv _ _ e2 r2)
          · cases e
    · induction vs with
      | nil => intro ds ws e r; cases r; simp [rdf] at e; subst e; exact .nil
      | cons v vs ihv =>
        intro ds ws e r
        obtain ⟨f, v⟩ := v
        cases r with
        | cons r1 r2 =>
          simp only [rdf] at e
          split at e
          · rename_i d ds' e1 e2
            cases e
            exact .cons (ih1 _ _ _ e1 r1) (ihv _ _ e2 r2)
          · cases e
def lessP (H : Hp) (p0 : Addr) : Hp := fun p => open Classical in if p = p0 then none else H p
theorem lessP_own {p0 : Addr} : lessP H p0 p0 = none := by unfold lessP; rw [if_pos rfl]
theorem lessP_ne {p p0 : Addr} (h : p ≠ p0) : lessP H p0 p = H p := by unfold lessP; rw [if_neg h]
/-- the object alone, for the callee -/
theorem HR.alone (R : HR G B S ρ st H) {i : Nat} {p : Addr} (hi : ρ[i]? = some p) {c : Str} {fs : List (Str × Val)} (hf : flatf fs = true) (ho : st[i]? = some (.ins c fs)) : HR G (lessP H p) S [p] [.ins c fs] H := by
  obtain ⟨C, dx, ws, h1, h2, h3⟩ := R.ob i p _ hi ho
  refine ⟨fun q u e => ?_, R.s, by simp, rfl, fun j q hq => ?_, fun j q ob hq hob => ?_⟩
  · by_cases h : q = p
    · subst h; rw [lessP_own] at e; cases e
    · rw [lessP_ne h] at e; exact e
  · cases j with
    | zero => simp at hq; subst hq; exact ⟨(R.fr i _ hi).1, lessP_own⟩
    | succ j => simp at hq
  · cases j with
    | zero => simp at hq hob; subst hq; subst hob; exact ⟨C, dx, ws, h1, h2, h3.flat hf⟩
    | succ j => simp at hq
/-- back from a call on an object -/
theorem back_obj (R : HR G B S ρ st H) {i : Nat} {p : Addr} (hi : ρ[i]? = some p) {S' : Hp} {ρ' : List Addr} {st' : Sto} {H' : Hp} (s : Step (lessP H p) S [p] S' ρ') (R' : HR G (lessP H p) S' ρ' st' H')
    {c' : Str} {fs' ds : List (Str × Val)} (ho : st'[0]? = some (.ins c' fs')) (hd : rdf (hide st') 12 fs' = some ds) :
    Step B S ρ (fzp S' ρ' p H') ρ ∧ HR G B (fzp S' ρ' p H') ρ (st.set i (.ins c' ds)) H' := by
  have h0 : ρ'[0]? = some p := pre_get s.r rfl
  have hp0 : p ∈ ρ' := List.mem_of_getElem? h0
  have fr' : ∀ q, q ∈ ρ' → S' q = none ∧ lessP H p q = none := fun q hm => by
    obtain ⟨j, hj, e⟩ := List.mem_iff_getElem.mp hm
    exact R'.fr j q (by rw [List.getElem?_eq_getElem hj, e])
  have nin : ∀ q, H q ≠ none → q ≠ p → q ∉ ρ' := fun q hq hne hm => hq (by have := (fr' q hm).2; rwa [lessP_ne hne] at this)
  have sS : Same S (fzp S' ρ' p H') := fun q o e => by
    have hne : q ≠ p := by rintro rfl; rw [(R.fr i _ hi).1] at e; cases e
    rw [fzp_out (nin q (by rw [R.s _ _ e]; simp) hne)]
    exact s.s _ _ e
  have keep : ∀ q o, q ≠ p → H q = some o → H' q = some o := fun q o hne e => R'.b q o (by rw [lessP_ne hne]; exact e)
  refine ⟨⟨sS, List.prefix_refl _, fun q h => ?_⟩, ⟨fun q o e => ?_, fun q o e => ?_, R.nd, by rw [List.length_set]; exact R.len, fun j q hq => ⟨?_, (R.fr j q hq).2⟩, fun j q ob h1 h2 => ?_⟩⟩
  · by_cases hq : q = p
    · subst hq; rw [fzp_own, (fr' _ hp0).1] at h; exact absurd rfl h
    · by_cases hm : q ∈ ρ'
      · have := (fr' q hm).2
        rw [lessP_ne hq] at this
        exact .inr (R.b.free this)
      · rw [fzp_out hm] at h
        rcases s.n q h with z | z
        · exact .inl z
        · rw [lessP_ne hq] at z; exact .inr (R.b.free z)
  · have hne : q ≠ p := by rintro rfl; rw [(R.fr i _ hi).2] at e; cases e
    exact keep q o hne (R.b _ _ e)
  · by_cases hq : q = p
    · subst hq; rw [fzp_own, (fr' _ hp0).1] at e; cases e
    · by_cases hm : q ∈ ρ'
      · rw [fzp_in hm hq] at e; exact e
      · rw [fzp_out hm] at e; exact R'.s _ _ e
  · by_cases hne : q = p
    · subst hne; rw [fzp_own]; exact (fr' _ hp0).1
    · obtain ⟨o, hoq⟩ := R.inS hq
      rw [fzp_out (nin q (by rw [hoq]; simp) hne)]
      cases z : S' q with
      | none => rfl
      | some u =>
        rcases s.n q (by rw [z]; simp) with y | y
        · exact absurd (R.fr j q hq).1 y
        · rw [lessP_ne hne, hoq] at y; cases y
  · by_cases hj : i = j
    · subst hj
      rw [hi] at h1; cases h1
      have hl : i < st.length := by rw [← R.len]; exact (List.getElem?_eq_some_iff.mp hi).1
      rw [List.getElem?_set_self hl] at h2; cases h2
      obtain ⟨C, dx, ws, a1, a2, a3⟩ := R'.ob 0 p _ h0 ho
      exact ⟨C, dx, ws, a1, a2, (rd_hide (ρ1 := ρ) R' h0 12).2.2 _ _ _ hd a3⟩
    · rw [List.getElem?_set_ne hj] at h2
      have z := R.ne_of_ix hj hi h1
      exact (R.ob j q ob h1 h2).mono sS (List.prefix_refl _) (fun u e => keep q u z.symm e)
theorem callObj_core {v : Val} {w : V} {us : List Val} {ws : List V} (R : HR G B S ρ st H) (rv : RV G S ρ v w) (rs : RVs G S ρ us ws) (hlen : us.length + 1 = n)
    (h3 : After G W B S ρ σ (callObj F v us st) fun v S' ρ' _ H' => ∀ w, RV G S' ρ' v w → Q w H') : spI G n F (w :: ws) H Q (fun cls d H => W cls d σ H) := by
  unfold callObj at h3
  split at h3
  · rename_i i
    cases rv with
    | @ref _ p hi =>
      split at h3
      · rename_i c fs ho
        split at h3
        · rename_i hf
          refine ⟨by rw [List.length_cons, ← rs.length]; exact hlen, lessP H p, S, [p], [.ins c fs], .ref 0 :: us, R.alone hi hf.1 ho, .cons (.ref rfl) (rs.flat hf.2), ?_⟩
          revert h3
          cases F (.ref 0 :: us) [.ins c fs] with
          | ok u st' =>
            intro h3 S' ρ' H' w s R' r'
            dsimp only at h3
            split at h3
            · rename_i d c' fs' e1 e2
              split at h3
              · rename_i ds e3
                obtain ⟨b1, b2⟩ := back_obj R hi s R' e2 e3
                exact h3 _ _ _ b1 b2 w ((rd_hide R' (pre_get s.r rfl) 12).1 _ _ _ e1 r')
              · exact h3.elim
            · exact h3.elim
          | er e st' =>
            intro h3 S' ρ' H' C s R' m
            dsimp only at h3
            split at h3
            · rename_i c' fs' e2
              split at h3
              · rename_i ds e3
                obtain ⟨b1, b2⟩ := back_obj R hi s R' e2 e3
                exact h3 _ _ _ C b1 b2 m
              · exact h3.elim
            · exact h3.elim
          | no => exact fun h3 => h3.elim
        · exact h3.elim
      · exact h3.elim
  · exact callP_core R (.cons rv rs) (by rw [List.length_cons]; exact hlen) h3
end
/-! ### methods -/
def eMethI (m : Str) (tbl : List (Str × FI)) (fo : EI) (r : AI) : EI := fun σ st => (fo σ st).bind fun v st1 => match insOf st1 v with
  | some (c, fs) => (match fs.lookup m, tbl.lookup c with
    | none, some F => (r σ st1).bind fun vs st2 => F (v :: vs) st2
    | _, _ => .no)
  | none => .no
def eMethP (m : Str) (tbl : List (Str × FI)) (fo : EI) (r : AI) : EI := fun σ st => (fo σ st).bind fun v st1 => match insOf st1 v with
  | some (c, fs) => (match fs.lookup m, tbl.lookup c with
    | none, some F => (r σ st1).bind fun vs st2 => callObj F v vs st2
    | _, _ => .no)
  | none => .no
/-- what is known of a class's method -/
def KnM (P : Program) (w : World) (K : PySem.W.Frag) (mg : Str → Option Value) (base : Heap) (c m : Str) (k n : Nat) (F : FI) : Prop :=
  ∃ C f fd ps, ps.length = n ∧ mg c = some (.ref C) ∧ Cls K C ∧ Meth K C m f ∧ FnOk P w K mg base (L2N.CX P w) k f fd ps (spI ⟨K, mg, none⟩ n F) ∧ Binds K fd ps []
def TblM (P : Program) (w : World) (K : PySem.W.Frag) (mg : Str → Option Value) (base : Heap) (m : Str) (j n : Nat) (tbl : List (Str × FI)) : Prop := ∀ c F, tbl.lookup c = some F → ∃ k, k ≤ j ∧ KnM P w K mg base c m k n F
section
variable {P : Program} {w : World} {K : PySem.W.Frag} {mg : Str → Option Value} {base : Heap} {c m : Str} {k j n : Nat} {F : FI} {tbl : List (Str × FI)}
theorem tm_nil : TblM P w K mg base m j n [] := fun y F h => by simp at h
theorem tm_cons (h : KnM P w K mg base c m k n F) (hk : k ≤ j) (r : TblM P w K mg base m j n tbl) : TblM P w K mg base m j n ((c, F) :: tbl) := fun y G e => by
  by_cases hy : y = c
  · subst hy
    simp at e
    subst e
    exact ⟨k, hk, h⟩
  · have hb : (y == c) = false := beq_eq_false_iff_ne.mpr hy
    simp only [List.lookup, hb] at e
    exact r y G e
end
section
variable {X : Cx} {W : WX} {o e : Expr} {es : List Expr} {fo : EI} {r : AI} {tbl : List (Str × FI)} {j n : Nat} {m : Str} {pos apos : Pos}
theorem TblM.at {c : Str} {F : FI} {C : Addr} (h : TblM X.prog X.w X.K X.mg X.base m j n tbl) (hr : Room j X.A) (e : tbl.lookup c = some F) (hc : X.mg c = some (.ref C)) : MethAt X (L2N.CX X.prog X.w) C m (spI (gt X none) n F) := by
  obtain ⟨k, hk, C', f, fd, ps, hp, hm, cl, me, D, hb⟩ := h c F e
  rw [hc] at hm
  cases hm
  exact ⟨cl, f, fd, ps, k, me, D, hr.mono hk, hb⟩
theorem i_methI {pl : Sem Bool} (hT : TblM X.prog X.w X.K X.mg X.base m j n tbl) (tk : L2N.Takes X W) (hr : Room j X.A) (ho : PE X o (TI (gt X none) W fo)) (ha : PA X (e :: es) (TL (gt X none) W r)) (hal : AI.len r (es.length + 1)) (hlen : es.length + 2 = n)
    (hst : starEach (e :: es) X.env = (false, eval e X.env) :: starEach es X.env := by rfl) (hpl : (backTo pos (starEach es X.env)).any (·.1) = false := by rfl)
    (ht : eval (.Call (.Attribute o m apos) (e :: es) [] pos) X.env = (do
      let ov ← eval o X.env
      standAt apos.atName
      let (f, first) ← holding [ov] (getMethod ov m pl)
      callWith pos f first (backTo pos (starEach (e :: es) X.env)) (backToKw pos (keywordEach [] X.env))) := by rfl) :
    PE X (.Call (.Attribute o m apos) (e :: es) [] pos) (TI (gt X none) W (eMethI m tbl fo r)) := by
  refine (pe_methG ho (passes_w tk) ha hst hpl ht).weak fun σ H Q ⟨B, S, ρ, σI, st, R, L, h⟩ => ?_
  unfold eMethI at h
  refine ⟨B, S, ρ, σI, st, R, L, (After.bind h).imp fun v S1 ρ1 st1 H1 s1 R1 h1 w1 r1 => ?_⟩
  split at h1
  · rename_i c fs hi
    obtain ⟨p, C, dx, ws, rfl, hp, hc, rf⟩ := insOf_get R1 r1 hi
    split at h1
    · rename_i F hl hF
      refine ⟨p, C, dx, ws, _, rfl, hp, hT.at hr hF hc, rf.look.2 hl, B, S1, ρ1, σI, st1, R1, L.mono s1.s s1.r, ?_⟩
      have h2 := After.bind h1
      revert h2
      cases e1 : r σI st1 with
      | ok vs st2 =>
        intro h2 S2 ρ2 H2 s2 R2 ws2 r2
        have h3 := h2 S2 ρ2 H2 s2 R2
        dsimp only at h3
        refine ⟨by rw [List.length_cons, ← r2.length, hal _ _ _ _ e1]; omega, B, S2, ρ2, st2, v :: vs, R2, .cons (r1.mono s2.s s2.r) r2, ?_⟩
        revert h3
        cases F (v :: vs) st2 with
        | ok v st3 => exact fun h3 S' ρ' H' w s R' r' => h3 S' ρ' H' s R' w r'
        | er c st3 => exact fun h3 S' ρ' H' C s R' m => h3 S' ρ' H' C s R' m
        | no => exact fun h3 => h3
      | er c' st2 => exact fun h2 => h2
      | no => exact fun h2 => h2
    · exact h1.elim
  · exact h1.elim
theorem i_methI0 {pl : Sem Bool} (hT : TblM X.prog X.w X.K X.mg X.base m j 1 tbl) (tk : L2N.Takes X W) (hr : Room j X.A) (ho : PE X o (TI (gt X none) W fo))
    (ht : eval (.Call (.Attribute o m apos) [] [] pos) X.env = (do
      let ov ← eval o X.env
      standAt apos.atName
      let (f, first) ← holding [ov] (getMethod ov m pl)
      callWith pos f first (backTo pos (starEach [] X.env)) (backToKw pos (keywordEach [] X.env))) := by rfl) :
    PE X (.Call (.Attribute o m apos) [] [] pos) (TI (gt X none) W (eMethI m tbl fo aNil)) := by
  refine (pe_methG0 ho (passes_w tk) ht).weak fun σ H Q ⟨B, S, ρ, σI, st, R, L, h⟩ => ?_
  unfold eMethI at h
  refine ⟨B, S, ρ, σI, st, R, L, (After.bind h).imp fun v S1 ρ1 st1 H1 s1 R1 h1 w1 r1 => ?_⟩
  split at h1
  · rename_i c fs hi
    obtain ⟨p, C, dx, ws, rfl, hp, hc, rf⟩ := insOf_get R1 r1 hi
    split at h1
    · rename_i F hl hF
      refine ⟨p, C, dx, ws, _, rfl, hp, hT.at hr hF hc, rf.look.2 hl, rfl, B, S1, ρ1, st1, [v], R1, .cons r1 .nil, ?_⟩
      have h3 : After (gt X none) W B S1 ρ1 σ (F [v] st1) _ := h1
      revert h3
      cases F [v] st1 with
      | ok v st3 => exact fun h3 S' ρ' H' w s R' r' => h3 S' ρ' H' s R' w r'
      | er c st3 => exact fun h3 S' ρ' H' C s R' m => h3 S' ρ' H' C s R' m
      | no => exact fun h3 => h3
    · exact h1.elim
  · exact h1.elim
theorem i_methP {pl : Sem Bool} (hT : TblM X.prog X.w X.K X.mg X.base m j n tbl) (tk : L2N.Takes X W) (hr : Room j X.A) (ho : PE X o (TI (gt X none) W fo)) (ha : PA X (e :: es) (TL (gt X none) W r)) (hal : AI.len r (es.length + 1)) (hlen : es.length + 2 = n)
    (hst : starEach (e :: es) X.env = (false, eval e X.env) :: starEach es X.env := by rfl) (hpl : (backTo pos (starEach es X.env)).any (·.1) = false := by rfl)
    (ht : eval (.Call (.Attribute o m apos) (e :: es) [] pos) X.env = (do
      let ov ← eval o X.env
      standAt apos.atName
      let (f, first) ← holding [ov] (getMethod ov m pl)
      callWith pos f first (backTo pos (starEach (e :: es) X.env)) (backToKw pos (keywordEach [] X.env))) := by rfl) :
    PE X (.Call (.Attribute o m apos) (e :: es) [] pos) (TI (gt X none) W (eMethP m tbl fo r)) := by
  refine (pe_methG ho (passes_w tk) ha hst hpl ht).weak fun σ H Q ⟨B, S, ρ, σI, st, R, L, h⟩ => ?_
  unfold eMethP at h
  refine ⟨B, S, ρ, σI, st, R, L, (After.bind h).imp fun v S1 ρ1 st1 H1 s1 R1 h1 w1 r1 => ?_⟩
  split at h1
  · rename_i c fs hi
    obtain ⟨p, C, dx, ws, rfl, hp, hc, rf⟩ := insOf_get R1 r1 hi
    split at h1
    · rename_i F hl hF
      refine ⟨p, C, dx, ws, _, rfl, hp, hT.at hr hF hc, rf.look.2 hl, B, S1, ρ1, σI, st1, R1, L.mono s1.s s1.r, ?_⟩
      have h2 := After.bind h1
      revert h2
      cases e1 : r σI st1 with
      | ok vs st2 =>
        intro h2 S2 ρ2 H2 s2 R2 ws2 r2
        exact callObj_core R2 (r1.mono s2.s s2.r) r2 (by rw [hal _ _ _ _ e1]; omega) (h2 S2 ρ2 H2 s2 R2)
      | er c' st2 => exact fun h2 => h2
      | no => exact fun h2 => h2
    · exact h1.elim
  · exact h1.elim
theorem i_methP0 {pl : Sem Bool} (hT : TblM X.prog X.w X.K X.mg X.base m j 1 tbl) (tk : L2N.Takes X W) (hr : Room j X.A) (ho : PE X o (TI (gt X none) W fo))
    (ht : eval (.Call (.Attribute o m apos) [] [] pos) X.env = (do
      let ov ← eval o X.env
      standAt apos.atName
      let (f, first) ← holding [ov] (getMethod ov m pl)
      callWith pos f first (backTo pos (starEach [] X.env)) (backToKw pos (keywordEach [] X.env))) := by rfl) :
    PE X (.Call (.Attribute o m apos) [] [] pos) (TI (gt X none) W (eMethP m tbl fo aNil)) := by
  refine (pe_methG0 ho (passes_w tk) ht).weak fun σ H Q ⟨B, S, ρ, σI, st, R, L, h⟩ => ?_
  unfold eMethP at h
  refine ⟨B, S, ρ, σI, st, R, L, (After.bind h).imp fun v S1 ρ1 st1 H1 s1 R1 h1 w1 r1 => ?_⟩
  split at h1
  · rename_i c fs hi
    obtain ⟨p, C, dx, ws, rfl, hp, hc, rf⟩ := insOf_get R1 r1 hi
    split at h1
    · rename_i F hl hF
      refine ⟨p, C, dx, ws, _, rfl, hp, hT.at hr hF hc, rf.look.2 hl, ?_⟩
      exact callObj_core R1 r1 .nil rfl h1
    · exact h1.elim
  · exact h1.elim
end
@[simp] theorem x_eMethI {m : Str} {tbl : List (Str × FI)} {fo : EI} {r : AI} {σ : Sg} {st : Sto} : eMethI m tbl fo r σ st = (fo σ st).bind fun v st1 => match insOf st1 v with
  | some (c, fs) => (match fs.lookup m, tbl.lookup c with
    | none, some F => (r σ st1).bind fun vs st2 => F (v :: vs) st2
    | _, _ => .no)
  | none => .no := rfl
@[simp] theorem x_eMethP {m : Str} {tbl : List (Str × FI)} {fo : EI} {r : AI} {σ : Sg} {st : Sto} : eMethP m tbl fo r σ st = (fo σ st).bind fun v st1 => match insOf st1 v with
  | some (c, fs) => (match fs.lookup m, tbl.lookup c with
    | none, some F => (r σ st1).bind fun vs st2 => callObj F v vs st2
    | _, _ => .no)
  | none => .no := rfl
end
end Bd

namespace Bd
noncomputable section
open PySem L2
/-- a class of the text with a field -/
def FldK (K : PySem.W.Frag) (mg : Str → Option Value) (c f : Str) : Prop := ∃ C, mg c = some (.ref C) ∧ Cls K C ∧ NoAttr K C f
theorem ct_nil {K : PySem.W.Frag} {mg : Str → Option Value} : CTab K mg [] := fun c C ns h => by simp at h
theorem ct_cons {K : PySem.W.Frag} {mg : Str → Option Value} {c f : Str} {tab : List (Str × List Str)} (h : FldK K mg c f) (r : CTab K mg tab) : CTab K mg ((c, [f]) :: tab) := fun c' C ns e m => by
  by_cases hc : c' = c
  · subst hc
    simp at e
    subst e
    obtain ⟨C', h1, h2, h3⟩ := h
    rw [m] at h1
    cases h1
    exact ⟨h2, fun g hg => by simp at hg; subst hg; exact h3⟩
  · have hb : (c' == c) = false := beq_eq_false_iff_ne.mpr hc
    simp only [List.lookup, hb] at e
    exact r c' C ns e m
/-! ### isinstance, an own class -/
def IsF (K : PySem.W.Frag) (C : Addr) : Prop := Cls K C ∧ PySem.W.findIn K (.ref C) "__class__" = some (some (.builtin "object.__class__")) ∧ PySem.W.specialIn K (.builtin "object.__class__") "__get__" = some (some (.builtin "getset_descriptor.__get__")) ∧
  PySem.W.takesIn K (.builtin "object.__class__") = some true ∧ PySem.W.mroIn K C (.type "object") = some true
def ITab (K : PySem.W.Frag) (mg : Str → Option Value) (cs xs : List Str) : Prop := ∀ c, c ∈ cs → ∃ C, mg c = some (.ref C) ∧ IsF K C ∧ ∀ x, x ∈ xs → ∃ D, mg x = some (.ref D) ∧ PySem.W.kitOne K (.ref C) (.ref D) = some (x == c || x == "Answer")
def kIsI (cs xs : List Str) : List Val → Sto → Out Val := kL fun us st => match us with
  | [v, .gl x] => match insOf st v with
    | some (c, _) => if cs.contains c = true ∧ xs.contains x = true then some (.bl (x == c || x == "Answer")) else none
    | none => none
  | _ => none
theorem cls_own {w : V} {D : Addr} (rv : RelV w (.ref D)) : ClsV w (.ref D) := by
  cases w with
  | ref a => cases (show Value.ref D = Value.ref a from rv); exact .own _
  | non => exact nomatch (show Value.ref D = Value.none from rv)
  | bl b => exact nomatch (show Value.ref D = Value.bool b from rv)
  | ty b => exact nomatch (show Value.ref D = Value.type b from rv)
  | int i => obtain ⟨t, z⟩ := (show ∃ t, Value.ref D = Value.int i t from rv); cases z
  | str i => obtain ⟨t, z⟩ := (show ∃ t, Value.ref D = Value.str i t from rv); cases z
  | byt i => obtain ⟨t, z⟩ := (show ∃ t, Value.ref D = Value.bytes i t from rv); cases z
  | flt i => obtain ⟨t, z⟩ := (show ∃ t, Value.ref D = Value.float i t from rv); cases z
theorem kIsI_bears {X : Cx} {ξ : Exo} {W : WX} {cs xs : List Str} (h : ITab X.K X.mg cs xs) : BearsL X ξ W (rIsi X.K) (kIsI cs xs) := by
  intro B S ρ st σ H us vs Q R rx h1
  obtain ⟨z, e, h0⟩ := kL_some h1
  split at e
  · rename_i v x
    split at e
    · rename_i c fs hi
      split at e
      · rename_i hk
        cases e
        cases rx with
        | cons r1 rx =>
          cases rx with
          | cons r2 rx =>
            cases rx
            obtain ⟨p, C, dx, ws, rfl, hp, hc, rf⟩ := insOf_get R r1 hi
            obtain ⟨C', g1, ⟨q1, q2, q3, q4, q5⟩, g3⟩ := h c (List.contains_iff_mem.mp hk.1)
            obtain ⟨D, g4, g5⟩ := g3 x (List.contains_iff_mem.mp hk.2)
            have hc : X.mg c = some (.ref C) := hc
            have e9 : Value.ref C = Value.ref C' := Option.some.inj (hc.symm.trans g1)
            cases e9
            cases r2 with
            | gl m rv =>
              rename_i w u
              have m : X.mg x = some u := m
              have e8 : Value.ref D = u := Option.some.inj (g4.symm.trans m)
              subst e8
              refine ⟨.ref p, _, _, _, _, rfl, ?_, .base (.ins hp q1 q2 q3 q4 q5), g5, h0.here R _ (.bl _)⟩
              exact cls_own rv
      · cases e
    · cases e
  · cases e
section
variable {X : Cx} {ξ : Exo} {W : WX} {e : Expr} {es : List Expr} {r : AI} {cs xs : List Str} {p pos : Pos}
theorem i_isI (h : ITab X.K X.mg cs xs) (hg : Gl X "isinstance") (hm : X.mg "isinstance" = none) (ha : PA X (e :: es) (TL (gt X ξ) W r))
    (he : starEach (e :: es) X.env = (false, eval e X.env) :: starEach es X.env := by rfl) (hpl : (backTo pos (starEach es X.env)).any (·.1) = false := by rfl) : PE X (.Call (.Name "isinstance" p) (e :: es) [] pos) (TI (gt X ξ) W (eB (kIsI cs xs) r)) :=
  i_callB (kIsI_bears h) call_isi hg hm (by decide +kernel) ha (by decide) (by decide) he hpl
end
@[simp] theorem k_isI {cs xs : List Str} {v : Val} {x : Str} {st : Sto} : kIsI cs xs [v, .gl x] st = match (match insOf st v with
    | some (c, _) => if cs.contains c = true ∧ xs.contains x = true then some (Val.bl (x == c || x == "Answer")) else none
    | none => none) with
  | some v => .ok v st
  | none => .no := rfl
end
end Bd

namespace Bd
noncomputable section
open PySem L2
/-! ## x is True; a, b, c = x, y, z -/
def kIsB : Val → Val → Sto → Out Val := kOpt fun x y _ => match x, y with
  | .bl a, .bl b => some (.bl (decide (a = b)))
  | _, _ => none
def kIsNotB : Val → Val → Sto → Out Val := kOpt fun x y _ => match x, y with
  | .bl a, .bl b => some (.bl (!decide (a = b)))
  | _, _ => none
section
variable {X : Cx} {ξ : Exo} {W : WX} {a b c : Expr} {fa fb : EI} {r : AI} {pos : Pos}
theorem kIsB_bears : Bears2 X ξ W L2.rIsB kIsB := by
  intro B S ρ st σ H x y v w Q R rx ry h
  obtain ⟨z, e0, h0⟩ := kOpt_some h
  split at e0
  · cases e0
    cases rx
    cases ry
    exact ⟨_, _, rfl, rfl, h0.here R _ (.bl _)⟩
  · cases e0
theorem kIsNotB_bears : Bears2 X ξ W L2.rNotB kIsNotB := by
  intro B S ρ st σ H x y v w Q R rx ry h
  obtain ⟨z, e0, h0⟩ := kOpt_some h
  split at e0
  · cases e0
    cases rx
    cases ry
    exact ⟨_, _, rfl, rfl, h0.here R _ (.bl _)⟩
  · cases e0
theorem i_isB (ha : PE X a (TI (gt X ξ) W fa)) (hb : PE X b (TI (gt X ξ) W fb)) : PE X (.Compare a [.Is] [b] pos) (TI (gt X ξ) W (eBin kIsB fa fb)) := i_cmp op_isBl kIsB_bears ha hb (nomark _)
theorem i_isnotB (ha : PE X a (TI (gt X ξ) W fa)) (hb : PE X b (TI (gt X ξ) W fb)) : PE X (.Compare a [.IsNot] [b] pos) (TI (gt X ξ) W (eBin kIsNotB fa fb)) := i_cmp op_notBl kIsNotB_bears ha hb (nomark _)
theorem t_isB (ha : PE X a (TI (gt X ξ) W fa)) (hb : PE X b (TI (gt X ξ) W fb)) : PT X (.Compare a [.Is] [b] pos) (TB (gt X ξ) W (bOf (eBin kIsB fa fb))) := t_cmp op_isBl kIsB_bears ha hb (nomark _)
theorem t_isnotB (ha : PE X a (TI (gt X ξ) W fa)) (hb : PE X b (TI (gt X ξ) W fb)) : PT X (.Compare a [.IsNot] [b] pos) (TB (gt X ξ) W (bOf (eBin kIsNotB fa fb))) := t_cmp op_notBl kIsNotB_bears ha hb (nomark _)
theorem s_par3 {i j l : Nat} {x y z : Str} {px py pz pt : Pos} {kt k2 pt2} (hc : X.calm = true) (hN : X.N.Nodup) (hi : X.N[i]? = some x) (hj : X.N[j]? = some y) (hl : X.N[l]? = some z) (hij : i ≠ j) (hil : i ≠ l) (hjl : j ≠ l)
    (hx : X.env.scope.names.lookup x = some .local) (hy : X.env.scope.names.lookup y = some .local) (hz : X.env.scope.names.lookup z = some .local) (ha : PA X [a, b, c] (TL (gt X ξ) W r))
    (hw : swappedStores [.Tuple [.Name x px, .Name y py, .Name z pz] kt pt] (.Tuple [a, b, c] k2 pt2) X.env = pure (some [x, y, z]) := by rfl)
    (hs : swapsWithSole [.Tuple [.Name x px, .Name y py, .Name z pz] kt pt] (.Tuple [a, b, c] k2 pt2) pos.line X.env = pure false := by rfl) :
    PS X (.Assign [.Tuple [.Name x px, .Name y py, .Name z pz] kt pt] (.Tuple [a, b, c] k2 pt2) pos) (TS' (gt X ξ) W (sPar3 i j l r)) := by
  refine (L2.ps_par3 hc hN hi hj hl hij hil hjl hx hy hz ha hw hs).weak fun D σ H ⟨B, S, ρ, σI, st, R, L, h⟩ => ?_
  refine ⟨B, S, ρ, σI, st, R, L, (AfterS.sb h L).imp fun xs S1 ρ1 st1 H1 s1 R1 h1 ws r1 => ?_⟩
  split at h1
  · cases r1 with
    | cons q1 r1 =>
      cases r1 with
      | cons q2 r1 =>
        cases r1 with
        | cons q3 r1 =>
          cases r1
          exact ⟨_, _, _, rfl, h1 S1 ρ1 H1 _ Step.refl R1 ((((L.mono s1.s s1.r).set q1 i).set q2 j).set q3 l)⟩
  · exact h1.elim
end
@[simp] theorem k_isB {a b : Bool} {st : Sto} : kIsB (.bl a) (.bl b) st = .ok (.bl (decide (a = b))) st := rfl
@[simp] theorem k_isNB {a b : Bool} {st : Sto} : kIsNotB (.bl a) (.bl b) st = .ok (.bl (!decide (a = b))) st := rfl
end
end Bd

namespace Bd
noncomputable section
open PySem L2
/-! ## min, max of a list of whole numbers; int(x) of a truth or a whole number -/
def leastI (ns : List Int) : Option Int := ns.find? fun m => ns.all fun y => decide (m ≤ y)
def mostI (ns : List Int) : Option Int := ns.find? fun m => ns.all fun y => decide (y ≤ m)
def kMin1 : List Val → Sto → Out Val := kL fun xs st => match xs with
  | [v] => (listOf st v).bind fun vs => (intsOf vs).bind fun ns => (leastI ns).map .int
  | _ => none
def kMax1 : List Val → Sto → Out Val := kL fun xs st => match xs with
  | [v] => (listOf st v).bind fun vs => (intsOf vs).bind fun ns => (mostI ns).map .int
  | _ => none
def kInt1 : List Val → Sto → Out Val := kL fun xs _ => match xs with
  | [.int i] => some (.int i)
  | [.bl b] => some (.int (if b = true then 1 else 0))
  | _ => none
section
variable {X : Cx} {ξ : Exo} {W : WX}
theorem leastI_is {ns : List Int} {m : Int} (h : leastI ns = some m) : m ∈ ns ∧ ∀ y ∈ ns, m ≤ y :=
  ⟨List.mem_of_find?_eq_some h, fun y hy => by have := List.find?_some h; exact of_decide_eq_true (List.all_eq_true.mp this y hy)⟩
theorem mostI_is {ns : List Int} {m : Int} (h : mostI ns = some m) : m ∈ ns ∧ ∀ y ∈ ns, y ≤ m :=
  ⟨List.mem_of_find?_eq_some h, fun y hy => by have := List.find?_some h; exact of_decide_eq_true (List.all_eq_true.mp this y hy)⟩
theorem kMin1_bears : BearsL X ξ W (rMin X.K) kMin1 := by
  intro B S ρ st σ H xs vs Q R rx h
  obtain ⟨z, e, h0⟩ := kL_some h
  split at e
  · rename_i v
    obtain ⟨us, e1, e⟩ := Option.bind_eq_some_iff.mp e
    obtain ⟨ns, e2, e⟩ := Option.bind_eq_some_iff.mp e
    obtain ⟨m, e3, rfl⟩ := Option.map_eq_some_iff.mp e
    cases rx with
    | cons r1 rx =>
      cases rx
      obtain ⟨p, ws, rfl, hp, r2⟩ := listOf_get R r1 e1
      obtain ⟨h1, h2⟩ := leastI_is e3
      rw [ints_some e2] at r2
      rw [r2.ints] at hp
      refine ⟨p, ns, rfl, hp, List.length_pos_of_mem h1, fun m' h3 h4 => ?_⟩
      have : m' = m := Int.le_antisymm (h4 m h1) (h2 m' h3)
      subst this
      exact h0.here R _ (.int _)
  · cases e
theorem kMax1_bears : BearsL X ξ W (rMax X.K) kMax1 := by
  intro B S ρ st σ H xs vs Q R rx h
  obtain ⟨z, e, h0⟩ := kL_some h
  split at e
  · rename_i v
    obtain ⟨us, e1, e⟩ := Option.bind_eq_some_iff.mp e
    obtain ⟨ns, e2, e⟩ := Option.bind_eq_some_iff.mp e
    obtain ⟨m, e3, rfl⟩ := Option.map_eq_some_iff.mp e
    cases rx with
    | cons r1 rx =>
      cases rx
      obtain ⟨p, ws, rfl, hp, r2⟩ := listOf_get R r1 e1
      obtain ⟨h1, h2⟩ := mostI_is e3
      rw [ints_some e2] at r2
      rw [r2.ints] at hp
      refine ⟨p, ns, rfl, hp, List.length_pos_of_mem h1, fun m' h3 h4 => ?_⟩
      have : m' = m := Int.le_antisymm (h2 m' h3) (h4 m h1)
      subst this
      exact h0.here R _ (.int _)
  · cases e
theorem kInt1_bears : BearsL X ξ W (fun xs H Q => (∃ i, xs = [.int i] ∧ Q (.int i) H) ∨ ∃ k, xs = [.bl k] ∧ Q (.int (if k then 1 else 0)) H) kInt1 := by
  intro B S ρ st σ H xs vs Q R rx h
  obtain ⟨z, e, h0⟩ := kL_some h
  split at e
  · cases e
    cases rx with
    | cons r1 rx =>
      cases rx
      cases r1
      exact .inl ⟨_, rfl, h0.here R _ (.int _)⟩
  · cases e
    cases rx with
    | cons r1 rx =>
      cases rx
      cases r1
      exact .inr ⟨_, rfl, h0.here R _ (.int _)⟩
  · cases e
end
@[simp] theorem k_min1 {v : Val} {st : Sto} : kMin1 [v] st = match ((listOf st v).bind fun vs => (intsOf vs).bind fun ns => (leastI ns).map Val.int) with
  | some v => .ok v st
  | none => .no := rfl
@[simp] theorem k_max1 {v : Val} {st : Sto} : kMax1 [v] st = match ((listOf st v).bind fun vs => (intsOf vs).bind fun ns => (mostI ns).map Val.int) with
  | some v => .ok v st
  | none => .no := rfl
@[simp] theorem k_int1b {b : Bool} {st : Sto} : kInt1 [.bl b] st = .ok (.int (if b = true then 1 else 0)) st := rfl
@[simp] theorem k_int1i {i : Int} {st : Sto} : kInt1 [.int i] st = .ok (.int i) st := rfl
end
end Bd

namespace Bd
noncomputable section
open PySem L2
/-! names that differ -/
@[simp] theorem sn_BadShare_BadRow : ((Str.ofString "BadShare" = Str.ofString "BadRow") ↔ False) := iff_false_intro (by decide)
@[simp] theorem sb_BadShare_BadRow : (Str.ofString "BadShare" == Str.ofString "BadRow") = false := by decide
@[simp] theorem sn_BadShare_BadBead : ((Str.ofString "BadShare" = Str.ofString "BadBead") ↔ False) := iff_false_intro (by decide)
@[simp] theorem sb_BadShare_BadBead : (Str.ofString "BadShare" == Str.ofString "BadBead") = false := by decide
@[simp] theorem sn_BadShare_BadWeight : ((Str.ofString "BadShare" = Str.ofString "BadWeight") ↔ False) := iff_false_intro (by decide)
@[simp] theorem sb_BadShare_BadWeight : (Str.ofString "BadShare" == Str.ofString "BadWeight") = false := by decide
@[simp] theorem sn_BadShare_BadMoment : ((Str.ofString "BadShare" = Str.ofString "BadMoment") ↔ False) := iff_false_intro (by decide)
@[simp] theorem sb_BadShare_BadMoment : (Str.ofString "BadShare" == Str.ofString "BadMoment") = false := by decide
@[simp] theorem sn_BadShare_BadKind : ((Str.ofString "BadShare" = Str.ofString "BadKind") ↔ False) := iff_false_intro (by decide)
@[simp] theorem sb_BadShare_BadKind : (Str.ofString "BadShare" == Str.ofString "BadKind") = false := by decide
@[simp] theorem sn_BadShare_BadEvents : ((Str.ofString "BadShare" = Str.ofString "BadEvents") ↔ False) := iff_false_intro (by decide)
@[simp] theorem sb_BadShare_BadEvents : (Str.ofString "BadShare" == Str.ofString "BadEvents") = false := by decide
@[simp] theorem sn_BadShare_BadText : ((Str.ofString "BadShare" = Str.ofString "BadText") ↔ False) := iff_false_intro (by decide)
@[simp] theorem sb_BadShare_BadText : (Str.ofString "BadShare" == Str.ofString "BadText") = false := by decide
@[simp] theorem sn_BadShare_Unlike : ((Str.ofString "BadShare" = Str.ofString "Unlike") ↔ False) := iff_false_intro (by decide)
@[simp] theorem sb_BadShare_Unlike : (Str.ofString "BadShare" == Str.ofString "Unlike") = false := by decide
@[simp] theorem sn_BadShare_Together : ((Str.ofString "BadShare" = Str.ofString "Together") ↔ False) := iff_false_intro (by decide)
@[simp] theorem sb_BadShare_Together : (Str.ofString "BadShare" == Str.ofString "Together") = false := by decide
@[simp] theorem sn_BadShare_Crowded : ((Str.ofString "BadShare" = Str.ofString "Crowded") ↔ False) := iff_false_intro (by decide)
@[simp] theorem sb_BadShare_Crowded : (Str.ofString "BadShare" == Str.ofString "Crowded") = false := by decide
@[simp] theorem sn_BadShare_TooMany : ((Str.ofString "BadShare" = Str.ofString "TooMany") ↔ False) := iff_false_intro (by decide)
@[simp] theorem sb_BadShare_TooMany : (Str.ofString "BadShare" == Str.ofString "TooMany") = false := by decide
@[simp] theorem sn_BadShare_TooFar : ((Str.ofString "BadShare" = Str.ofString "TooFar") ↔ False) := iff_false_intro (by decide)
@[simp] theorem sb_BadShare_TooFar : (Str.ofString "BadShare" == Str.ofString "TooFar") = false := by decide
@[simp] theorem sn_BadShare_BeadError : ((Str.ofString "BadShare" = Str.ofString "BeadError") ↔ False) := iff_false_intro (by decide)
@[simp] theorem sb_BadShare_BeadError : (Str.ofString "BadShare" == Str.ofString "BeadError") = false := by decide
@[simp] theorem sn_BadRow_BadShare : ((Str.ofString "BadRow" = Str.ofString "BadShare") ↔ False) := iff_false_intro (by decide)
@[simp] theorem sb_BadRow_BadShare : (Str.ofString "BadRow" == Str.ofString "BadShare") = false := by decide
@[simp] theorem sn_BadRow_BadBead : ((Str.ofString "BadRow" = Str.ofString "BadBead") ↔ False) := iff_false_intro (by decide)
@[simp] theorem sb_BadRow_BadBead : (Str.ofString "BadRow" == Str.ofString "BadBead") = false := by decide
@[simp] theorem sn_BadRow_BadWeight : ((Str.ofString "BadRow" = Str.ofString "BadWeight") ↔ False) := iff_false_intro (by decide)
@[simp] theorem sb_BadRow_BadWeight : (Str.ofString "BadRow" == Str.ofString "BadWeight") = false := by decide
@[simp] theorem sn_BadRow_BadMoment : ((Str.ofString "BadRow" = Str.ofString "BadMoment") ↔ False) := iff_false_intro (by decide)
@[simp] theorem sb_BadRow_BadMoment : (Str.ofString "BadRow" == Str.ofString "BadMoment") = false := by decide
@[simp] theorem sn_BadRow_BadKind : ((Str.ofString "BadRow" = Str.ofString "BadKind") ↔ False) := iff_false_intro (by decide)
@[simp] theorem sb_BadRow_BadKind : (Str.ofString "BadRow" == Str.ofString "BadKind") = false := by decide
@[simp] theorem sn_BadRow_BadEvents : ((Str.ofString "BadRow" = Str.ofString "BadEvents") ↔ False) := iff_false_intro (by decide)
@[simp] theorem sb_BadRow_BadEvents : (Str.ofString "BadRow" == Str.ofString "BadEvents") = false := by decide
@[simp] theorem sn_BadRow_BadText : ((Str.ofString "BadRow" = Str.ofString "BadText") ↔ False) := iff_false_intro (by decide)
@[simp] theorem sb_BadRow_BadText : (Str.ofString "BadRow" == Str.ofString "BadText") = false := by decide
@[simp] theorem sn_BadRow_Unlike : ((Str.ofString "BadRow" = Str.ofString "Unlike") ↔ False) := iff_false_intro (by decide)
@[simp] theorem sb_BadRow_Unlike : (Str.ofString "BadRow" == Str.ofString "Unlike") = false := by decide
@[simp] theorem sn_BadRow_Together : ((Str.ofString "BadRow" = Str.ofString "Together") ↔ False) := iff_false_intro (by decide)
@[simp] theorem sb_BadRow_Together : (Str.ofString "BadRow" == Str.ofString "Together") = false := by decide
@[simp] theorem sn_BadRow_Crowded : ((Str.ofString "BadRow" = Str.ofString "Crowded") ↔ False) := iff_false_intro (by decide)
@[simp] theorem sb_BadRow_Crowded : (Str.ofString "BadRow" == Str.ofString "Crowded") = false := by decide
@[simp] theorem sn_BadRow_TooMany : ((Str.ofString "BadRow" = Str.ofString "TooMany") ↔ False) := iff_false_intro (by decide)
@[simp] theorem sb_BadRow_TooMany : (Str.ofString "BadRow" == Str.ofString "TooMany") = false := by decide
@[simp] theorem sn_BadRow_TooFar : ((Str.ofString "BadRow" = Str.ofString "TooFar") ↔ False) := iff_false_intro (by decide)
@[simp] theorem sb_BadRow_TooFar : (Str.ofString "BadRow" == Str.ofString "TooFar") = false := by decide
@[simp] theorem sn_BadRow_BeadError : ((Str.ofString "BadRow" = Str.ofString "BeadError") ↔ False) := iff_false_intro (by decide)
@[simp] theorem sb_BadRow_BeadError : (Str.ofString "BadRow" == Str.ofString "BeadError") = false := by decide
@[simp] theorem sn_BadBead_BadShare : ((Str.ofString "BadBead" = Str.ofString "BadShare") ↔ False) := iff_false_intro (by decide)
@[simp] theorem sb_BadBead_BadShare : (Str.ofString "BadBead" == Str.ofString "BadShare") = false := by decide
@[simp] theorem sn_BadBead_BadRow : ((Str.ofString "BadBead" = Str.ofString "BadRow") ↔ False) := iff_false_intro (by decide)
@[simp] theorem sb_BadBead_BadRow : (Str.ofString "BadBead" == Str.ofString "BadRow") = false := by decide
@[simp] theorem sn_BadBead_BadWeight : ((Str.ofString "BadBead" = Str.ofString "BadWeight") ↔ False) := iff_false_intro (by decide)
@[simp] theorem sb_BadBead_BadWeight : (Str.ofString "BadBead" == Str.ofString "BadWeight") = false := by decide
@[simp] theorem sn_BadBead_BadMoment : ((Str.ofString "BadBead" = Str.ofString "BadMoment") ↔ False) := iff_false_intro (by decide)
@[simp] theorem sb_BadBead_BadMoment : (Str.ofString "BadBead" == Str.ofString "BadMoment") = false := by decide
@[simp] theorem sn_BadBead_BadKind : ((Str.ofString "BadBead" = Str.ofString "BadKind") ↔ False) := iff_false_intro (by decide)
@[simp] theorem sb_BadBead_BadKind : (Str.ofString "BadBead" == Str.ofString "BadKind") = false := by decide
@[simp] theorem sn_BadBead_BadEvents : ((Str.ofString "BadBead" = Str.ofString "BadEvents") ↔ False) := iff_false_intro (by decide)
@[simp] theorem sb_BadBead_BadEvents : (Str.ofString "BadBead" == Str.ofString "BadEvents") = false := by decide
@[simp] theorem sn_BadBead_BadText : ((Str.ofString "BadBead" = Str.ofString "BadText") ↔ False) := iff_false_intro (by decide)
@[simp] theorem sb_BadBead_BadText : (Str.ofString "BadBead" == Str.ofString "BadText") = false := by decide
@[simp] theorem sn_BadBead_Unlike : ((Str.ofString "BadBead" = Str.ofString "Unlike") ↔ False) := iff_false_intro (by decide)
@[simp] theorem sb_BadBead_Unlike : (Str.ofString "BadBead" == Str.ofString "Unlike") = false := by decide
@[simp] theorem sn_BadBead_Together : ((Str.ofString "BadBead" = Str.ofString "Together") ↔ False) := iff_false_intro (by decide)
@[simp] theorem sb_BadBead_Together : (Str.ofString "BadBead" == Str.ofString "Together") = false := by decide
@[simp] theorem sn_BadBead_Crowded : ((Str.ofString "BadBead" = Str.ofString "Crowded") ↔ False) := iff_false_intro (by decide)
@[simp] theorem sb_BadBead_Crowded : (Str.ofString "BadBead" == Str.ofString "Crowded") = false := by decide
@[simp] theorem sn_BadBead_TooMany : ((Str.ofString "BadBead" = Str.ofString "TooMany") ↔ False) := iff_false_intro (by decide)
@[simp] theorem sb_BadBead_TooMany : (Str.ofString "BadBead" == Str.ofString "TooMany") = false := by decide
@[simp] theorem sn_BadBead_TooFar : ((Str.ofString "BadBead" = Str.ofString "TooFar") ↔ False) := iff_false_intro (by decide)
@[simp] theorem sb_BadBead_TooFar : (Str.ofString "BadBead" == Str.ofString "TooFar") = false := by decide
@[simp] theorem sn_BadBead_BeadError : ((Str.ofString "BadBead" = Str.ofString "BeadError") ↔ False) := iff_false_intro (by decide)
@[simp] theorem sb_BadBead_BeadError : (Str.ofString "BadBead" == Str.ofString "BeadError") = false := by decide
@[simp] theorem sn_BadWeight_BadShare : ((Str.ofString "BadWeight" = Str.ofString "BadShare") ↔ False) := iff_false_intro (by decide)
@[simp] theorem sb_BadWeight_BadShare : (Str.ofString "BadWeight" == Str.ofString "BadShare") = false := by decide
@[simp] theorem sn_BadWeight_BadRow : ((Str.ofString "BadWeight" = Str.ofString "BadRow") ↔ False) := iff_false_intro (by decide)
@[simp] theorem sb_BadWeight_BadRow : (Str.ofString "BadWeight" == Str.ofString "BadRow") = false := by decide
@[simp] theorem sn_BadWeight_BadBead : ((Str.ofString "BadWeight" = Str.ofString "BadBead") ↔ False) := iff_false_intro (by decide)
@[simp] theorem sb_BadWeight_BadBead : (Str.ofString "BadWeight" == Str.ofString "BadBead") = false := by decide
@[simp] theorem sn_BadWeight_BadMoment : ((Str.ofString "BadWeight" = Str.ofString "BadMoment") ↔ False) := iff_false_intro (by decide)
@[simp] theorem sb_BadWeight_BadMoment : (Str.ofString "BadWeight" == Str.ofString "BadMoment") = false := by decide
@[simp] theorem sn_BadWeight_BadKind : ((Str.ofString "BadWeight" = Str.ofString "BadKind") ↔ False) := iff_false_intro (by decide)
@[simp] theorem sb_BadWeight_BadKind : (Str.ofString "BadWeight" == Str.ofString "BadKind") = false := by decide
@[simp] theorem sn_BadWeight_BadEvents : ((Str.ofString "BadWeight" = Str.ofString "BadEvents") ↔ False) := iff_false_intro (by decide)
@[simp] theorem sb_BadWeight_BadEvents : (Str.ofString "BadWeight" == Str.ofString "BadEvents") = false := by decide
@[simp] theorem sn_BadWeight_BadText : ((Str.ofString "BadWeight" = Str.ofString "BadText") ↔ False) := iff_false_intro (by decide)
@[simp] theorem sb_BadWeight_BadText : (Str.ofString "BadWeight" == Str.ofString "BadText") = false := by decide
@[simp] theorem sn_BadWeight_Unlike : ((Str.ofString "BadWeight" = Str.ofString "Unlike") ↔ False) := iff_false_intro (by decide)
@[simp] theorem sb_BadWeight_Unlike : (Str.ofString "BadWeight" == Str.ofString "Unlike") = false := by decide
@[simp] theorem sn_BadWeight_Together : ((Str.ofString "BadWeight" = Str.ofString "Together") ↔ False) := iff_false_intro (by decide)
@[simp] theorem sb_BadWeight_Together : (Str.ofString "BadWeight" == Str.ofString "Together") = false := by decide
@[simp] theorem sn_BadWeight_Crowded : ((Str.ofString "BadWeight" = Str.ofString "Crowded") ↔ False) := iff_false_intro (by decide)
@[simp] theorem sb_BadWeight_Crowded : (Str.ofString "BadWeight" == Str.ofString "Crowded") = false := by decide
@[simp] theorem sn_BadWeight_TooMany : ((Str.ofString "BadWeight" = Str.ofString "TooMany") ↔ False) := iff_false_intro (by decide)
@[simp] theorem sb_BadWeight_TooMany : (Str.ofString "BadWeight" == Str.ofString "TooMany") = false := by decide
@[simp] theorem sn_BadWeight_TooFar : ((Str.ofString "BadWeight" = Str.ofString "TooFar") ↔ False) := iff_false_intro (by decide)
@[simp] theorem sb_BadWeight_TooFar : (Str.ofString "BadWeight" == Str.ofString "TooFar") = false := by decide
@[simp] theorem sn_BadWeight_BeadError : ((Str.ofString "BadWeight" = Str.ofString "BeadError") ↔ False) := iff_false_intro (by decide)
@[simp] theorem sb_BadWeight_BeadError : (Str.ofString "BadWeight" == Str.ofString "BeadError") = false := by decide
@[simp] theorem sn_BadMoment_BadShare : ((Str.ofString "BadMoment" = Str.ofString "BadShare") ↔ False) := iff_false_intro (by decide)
@[simp] theorem sb_BadMoment_BadShare : (Str.ofString "BadMoment" == Str.ofString "BadShare") = false := by decide
@[simp] theorem sn_BadMoment_BadRow : ((Str.ofString "BadMoment" = Str.ofString "BadRow") ↔ False) := iff_false_intro (by decide)
@[simp] theorem sb_BadMoment_BadRow : (Str.ofString "BadMoment" == Str.ofString "BadRow") = false := by decide
@[simp] theorem sn_BadMoment_BadBead : ((Str.ofString "BadMoment" = Str.ofString "BadBead") ↔ False) := iff_false_intro (by decide)
@[simp] theorem sb_BadMoment_BadBead : (Str.ofString "BadMoment" == Str.ofString "BadBead") = false := by decide
@[simp] theorem sn_BadMoment_BadWeight : ((Str.ofString "BadMoment" = Str.ofString "BadWeight") ↔ False) := iff_false_intro (by decide)
@[simp] theorem sb_BadMoment_BadWeight : (Str.ofString "BadMoment" == Str.ofString "BadWeight") = false := by decide
@[simp] theorem sn_BadMoment_BadKind : ((Str.ofString "BadMoment" = Str.ofString "BadKind") ↔ False) := iff_false_intro (by decide)
@[simp] theorem sb_BadMoment_BadKind : (Str.ofString "BadMoment" == Str.ofString "BadKind") = false := by decide
@[simp] theorem sn_BadMoment_BadEvents : ((Str.ofString "BadMoment" = Str.ofString "BadEvents") ↔ False) := iff_false_intro (by decide)
@[simp] theorem sb_BadMoment_BadEvents : (Str.ofString "BadMoment" == Str.ofString "BadEvents") = false := by decide
@[simp] theorem sn_BadMoment_BadText : ((Str.ofString "BadMoment" = Str.ofString "BadText") ↔ False) := iff_false_intro (by decide)
@[simp] theorem sb_BadMoment_BadText : (Str.ofString "BadMoment" == Str.ofString "BadText") = false := by decide
@[simp] theorem sn_BadMoment_Unlike : ((Str.ofString "BadMoment" = Str.ofString "Unlike") ↔ False) := iff_false_intro (by decide)
@[simp] theorem sb_BadMoment_Unlike : (Str.ofString "BadMoment" == Str.ofString "Unlike") = false := by decide
@[simp] theorem sn_BadMoment_Together : ((Str.ofString "BadMoment" = Str.ofString "Together") ↔ False) := iff_false_intro (by decide)
@[simp] theorem sb_BadMoment_Together : (Str.ofString "BadMoment" == Str.ofString "Together") = false := by decide
@[simp] theorem sn_BadMoment_Crowded : ((Str.ofString "BadMoment" = Str.ofString "Crowded") ↔ False) := iff_false_intro (by decide)
@[simp] theorem sb_BadMoment_Crowded : (Str.ofString "BadMoment" == Str.ofString "Crowded") = false := by decide
@[simp] theorem sn_BadMoment_TooMany : ((Str.ofString "BadMoment" = Str.ofString "TooMany") ↔ False) := iff_false_intro (by decide)
@[simp] theorem sb_BadMoment_TooMany : (Str.ofString "BadMoment" == Str.ofString "TooMany") = false := by decide
@[simp] theorem sn_BadMoment_TooFar : ((Str.ofString "BadMoment" = Str.ofString "TooFar") ↔ False) := iff_false_intro (by decide)
@[simp] theorem sb_BadMoment_TooFar : (Str.ofString "BadMoment" == Str.ofString "TooFar") = false := by decide
@[simp] theorem sn_BadMoment_BeadError : ((Str.ofString "BadMoment" = Str.ofString "BeadError") ↔ False) := iff_false_intro (by decide)
@[simp] theorem sb_BadMoment_BeadError : (Str.ofString "BadMoment" == Str.ofString "BeadError") = false := by decide
@[simp] theorem sn_BadKind_BadShare : ((Str.ofString "BadKind" = Str.ofString "BadShare") ↔ False) := iff_false_intro (by decide)
@[simp] theorem sb_BadKind_BadShare : (Str.ofString "BadKind" == Str.ofString "BadShare") = false := by decide
@[simp] theorem sn_BadKind_BadRow : ((Str.ofString "BadKind" = Str.ofString "BadRow") ↔ False) := iff_false_intro (by decide)
@[simp] theorem sb_BadKind_BadRow : (Str.ofString "BadKind" == Str.ofString "BadRow") = false := by decide
@[simp] theorem sn_BadKind_BadBead : ((Str.ofString "BadKind" = Str.ofString "BadBead") ↔ False) := iff_false_intro (by decide)
@[simp] theorem sb_BadKind_BadBead : (Str.ofString "BadKind" == Str.ofString "BadBead") = false := by decide
@[simp] theorem sn_BadKind_BadWeight : ((Str.ofString "BadKind" = Str.ofString "BadWeight") ↔ False) := iff_false_intro (by decide)
@[simp] theorem sb_BadKind_BadWeight : (Str.ofString "BadKind" == Str.ofString "BadWeight") = false := by decide
@[simp] theorem sn_BadKind_BadMoment : ((Str.ofString "BadKind" = Str.ofString "BadMoment") ↔ False) := iff_false_intro (by decide)
@[simp] theorem sb_BadKind_BadMoment : (Str.ofString "BadKind" == Str.ofString "BadMoment") = false := by decide
@[simp] theorem sn_BadKind_BadEvents : ((Str.ofString "BadKind" = Str.ofString "BadEvents") ↔ False) := iff_false_intro (by decide)
@[simp] theorem sb_BadKind_BadEvents : (Str.ofString "BadKind" == Str.ofString "BadEvents") = false := by decide
@[simp] theorem sn_BadKind_BadText : ((Str.ofString "BadKind" = Str.ofString "BadText") ↔ False) := iff_false_intro (by decide)
@[simp] theorem sb_BadKind_BadText : (Str.ofString "BadKind" == Str.ofString "BadText") = false := by decide
@[simp] theorem sn_BadKind_Unlike : ((Str.ofString "BadKind" = Str.ofString "Unlike") ↔ False) := iff_false_intro (by decide)
@[simp] theorem sb_BadKind_Unlike : (Str.ofString "BadKind" == Str.ofString "Unlike") = false := by decide
@[simp] theorem sn_BadKind_Together : ((Str.ofString "BadKind" = Str.ofString "Together") ↔ False) := iff_false_intro (by decide)
@[simp] theorem sb_BadKind_Together : (Str.ofString "BadKind" == Str.ofString "Together") = false := by decide
@[simp] theorem sn_BadKind_Crowded : ((Str.ofString "BadKind" = Str.ofString "Crowded") ↔ False) := iff_false_intro (by decide)
@[simp] theorem sb_BadKind_Crowded : (Str.ofString "BadKind" == Str.ofString "Crowded") = false := by decide
@[simp] theorem sn_BadKind_TooMany : ((Str.ofString "BadKind" = Str.ofString "TooMany") ↔ False) := iff_false_intro (by decide)
@[simp] theorem sb_BadKind_TooMany : (Str.ofString "BadKind" == Str.ofString "TooMany") = false := by decide
@[simp] theorem sn_BadKind_TooFar : ((Str.ofString "BadKind" = Str.ofString "TooFar") ↔ False) := iff_false_intro (by decide)
@[simp] theorem sb_BadKind_TooFar : (Str.ofString "BadKind" == Str.ofString "TooFar") = false := by decide
@[simp] theorem sn_BadKind_BeadError : ((Str.ofString "BadKind" = Str.ofString "BeadError") ↔ False) := iff_false_intro (by decide)
@[simp] theorem sb_BadKind_BeadError : (Str.ofString "BadKind" == Str.ofString "BeadError") = false := by decide
@[simp] theorem sn_BadEvents_BadShare : ((Str.ofString "BadEvents" = Str.ofString "BadShare") ↔ False) := iff_false_intro (by decide)
@[simp] theorem sb_BadEvents_BadShare : (Str.ofString "BadEvents" == Str.ofString "BadShare") = false := by decide
@[simp] theorem sn_BadEvents_BadRow : ((Str.ofString "BadEvents" = Str.ofString "BadRow") ↔ False) := iff_false_intro (by decide)
@[simp] theorem sb_BadEvents_BadRow : (Str.ofString "BadEvents" == Str.ofString "BadRow") = false := by decide
@[simp] theorem sn_BadEvents_BadBead : ((Str.ofString "BadEvents" = Str.ofString "BadBead") ↔ False) := iff_false_intro (by decide)
@[simp] theorem sb_BadEvents_BadBead : (Str.ofString "BadEvents" == Str.ofString "BadBead") = false := by decide
@[simp] theorem sn_BadEvents_BadWeight : ((Str.ofString "BadEvents" = Str.ofString "BadWeight") ↔ False) := iff_false_intro (by decide)
@[simp] theorem sb_BadEvents_BadWeight : (Str.ofString "BadEvents" == Str.ofString "BadWeight") = false := by decide
@[simp] theorem sn_BadEvents_BadMoment : ((Str.ofString "BadEvents" = Str.ofString "BadMoment") ↔ False) := iff_false_intro (by decide)
@[simp] theorem sb_BadEvents_BadMoment : (Str.ofString "BadEvents" == Str.ofString "BadMoment") = false := by decide
@[simp] theorem sn_BadEvents_BadKind : ((Str.ofString "BadEvents" = Str.ofString "BadKind") ↔ False) := iff_false_intro (by decide)
@[simp] theorem sb_BadEvents_BadKind : (Str.ofString "BadEvents" == Str.ofString "BadKind") = false := by decide
@[simp] theorem sn_BadEvents_BadText : ((Str.ofString "BadEvents" = Str.ofString "BadText") ↔ False) := iff_false_intro (by decide)
@[simp] theorem sb_BadEvents_BadText : (Str.ofString "BadEvents" == Str.ofString "BadText") = false := by decide
@[simp] theorem sn_BadEvents_Unlike : ((Str.ofString "BadEvents" = Str.ofString "Unlike") ↔ False) := iff_false_intro (by decide)
@[simp] theorem sb_BadEvents_Unlike : (Str.ofString "BadEvents" == Str.ofString "Unlike") = false := by decide
@[simp] theorem sn_BadEvents_Together : ((Str.ofString "BadEvents" = Str.ofString "Together") ↔ False) := iff_false_intro (by decide)
@[simp] theorem sb_BadEvents_Together : (Str.ofString "BadEvents" == Str.ofString "Together") = false := by decide
@[simp] theorem sn_BadEvents_Crowded : ((Str.ofString "BadEvents" = Str.ofString "Crowded") ↔ False) := iff_false_intro (by decide)
@[simp] theorem sb_BadEvents_Crowded : (Str.ofString "BadEvents" == Str.ofString "Crowded") = false := by decide
@[simp] theorem sn_BadEvents_TooMany : ((Str.ofString "BadEvents" = Str.ofString "TooMany") ↔ False) := iff_false_intro (by decide)
@[simp] theorem sb_BadEvents_TooMany : (Str.ofString "BadEvents" == Str.ofString "TooMany") = false := by decide
@[simp] theorem sn_BadEvents_TooFar : ((Str.ofString "BadEvents" = Str.ofString "TooFar") ↔ False) := iff_false_intro (by decide)
@[simp] theorem sb_BadEvents_TooFar : (Str.ofString "BadEvents" == Str.ofString "TooFar") = false := by decide
@[simp] theorem sn_BadEvents_BeadError : ((Str.ofString "BadEvents" = Str.ofString "BeadError") ↔ False) := iff_false_intro (by decide)
@[simp] theorem sb_BadEvents_BeadError : (Str.ofString "BadEvents" == Str.ofString "BeadError") = false := by decide
@[simp] theorem sn_BadText_BadShare : ((Str.ofString "BadText" = Str.ofString "BadShare") ↔ False) := iff_false_intro (by decide)
@[simp] theorem sb_BadText_BadShare : (Str.ofString "BadText" == Str.ofString "BadShare") = false := by decide
@[simp] theorem sn_BadText_BadRow : ((Str.ofString "BadText" = Str.ofString "BadRow") ↔ False) := iff_false_intro (by decide)
@[simp] theorem sb_BadText_BadRow : (Str.ofString "BadText" == Str.ofString "BadRow") = false := by decide
@[simp] theorem sn_BadText_BadBead : ((Str.ofString "BadText" = Str.ofString "BadBead") ↔ False) := iff_false_intro (by decide)
@[simp] theorem sb_BadText_BadBead : (Str.ofString "BadText" == Str.ofString "BadBead") = false := by decide
@[simp] theorem sn_BadText_BadWeight : ((Str.ofString "BadText" = Str.ofString "BadWeight") ↔ False) := iff_false_intro (by decide)
@[simp] theorem sb_BadText_BadWeight : (Str.ofString "BadText" == Str.ofString "BadWeight") = false := by decide
@[simp] theorem sn_BadText_BadMoment : ((Str.ofString "BadText" = Str.ofString "BadMoment") ↔ False) := iff_false_intro (by decide)
@[simp] theorem sb_BadText_BadMoment : (Str.ofString "BadText" == Str.ofString "BadMoment") = false := by decide
@[simp] theorem sn_BadText_BadKind : ((Str.ofString "BadText" = Str.ofString "BadKind") ↔ False) := iff_false_intro (by decide)
@[simp] theorem sb_BadText_BadKind : (Str.ofString "BadText" == Str.ofString "BadKind") = false := by decide
@[simp] theorem sn_BadText_BadEvents : ((Str.ofString "BadText" = Str.ofString "BadEvents") ↔ False) := iff_false_intro (by decide)
@[simp] theorem sb_BadText_BadEvents : (Str.ofString "BadText" == Str.ofString "BadEvents") = false := by decide
@[simp] theorem sn_BadText_Unlike : ((Str.ofString "BadText" = Str.ofString "Unlike") ↔ False) := iff_false_intro (by decide)
@[simp] theorem sb_BadText_Unlike : (Str.ofString "BadText" == Str.ofString "Unlike") = false := by decide
@[simp] theorem sn_BadText_Together : ((Str.ofString "BadText" = Str.ofString "Together") ↔ False) := iff_false_intro (by decide)
@[simp] theorem sb_BadText_Together : (Str.ofString "BadText" == Str.ofString "Together") = false := by decide
@[simp] theorem sn_BadText_Crowded : ((Str.ofString "BadText" = Str.ofString "Crowded") ↔ False) := iff_false_intro (by decide)
@[simp] theorem sb_BadText_Crowded : (Str.ofString "BadText" == Str.ofString "Crowded") = false := by decide
@[simp] theorem sn_BadText_TooMany : ((Str.ofString "BadText" = Str.ofString "TooMany") ↔ False) := iff_false_intro (by decide)
@[simp] theorem sb_BadText_TooMany : (Str.ofString "BadText" == Str.ofString "TooMany") = false := by decide
@[simp] theorem sn_BadText_TooFar : ((Str.ofString "BadText" = Str.ofString "TooFar") ↔ False) := iff_false_intro (by decide)
@[simp] theorem sb_BadText_TooFar : (Str.ofString "BadText" == Str.ofString "TooFar") = false := by decide
@[simp] theorem sn_BadText_BeadError : ((Str.ofString "BadText" = Str.ofString "BeadError") ↔ False) := iff_false_intro (by decide)
@[simp] theorem sb_BadText_BeadError : (Str.ofString "BadText" == Str.ofString "BeadError") = false := by decide
@[simp] theorem sn_Unlike_BadShare : ((Str.ofString "Unlike" = Str.ofString "BadShare") ↔ False) := iff_false_intro (by decide)
@[simp] theorem sb_Unlike_BadShare : (Str.ofString "Unlike" == Str.ofString "BadShare") = false := by decide
@[simp] theorem sn_Unlike_BadRow : ((Str.ofString "Unlike" = Str.ofString "BadRow") ↔ False) := iff_false_intro (by decide)
@[simp] theorem sb_Unlike_BadRow : (Str.ofString "Unlike" == Str.ofString "BadRow") = false := by decide
@[simp] theorem sn_Unlike_BadBead : ((Str.ofString "Unlike" = Str.ofString "BadBead") ↔ False) := iff_false_intro (by decide)
@[simp] theorem sb_Unlike_BadBead : (Str.ofString "Unlike" == Str.ofString "BadBead") = false := by decide
@[simp] theorem sn_Unlike_BadWeight : ((Str.ofString "Unlike" = Str.ofString "BadWeight") ↔ False) := iff_false_intro (by decide)
@[simp] theorem sb_Unlike_BadWeight : (Str.ofString "Unlike" == Str.ofString "BadWeight") = false := by decide
@[simp] theorem sn_Unlike_BadMoment : ((Str.ofString "Unlike" = Str.ofString "BadMoment") ↔ False) := iff_false_intro (by decide)
@[simp] theorem sb_Unlike_BadMoment : (Str.ofString "Unlike" == Str.ofString "BadMoment") = false := by decide
@[simp] theorem sn_Unlike_BadKind : ((Str.ofString "Unlike" = Str.ofString "BadKind") ↔ False) := iff_false_intro (by decide)
@[simp] theorem sb_Unlike_BadKind : (Str.ofString "Unlike" == Str.ofString "BadKind") = false := by decide
@[simp] theorem sn_Unlike_BadEvents : ((Str.ofString "Unlike" = Str.ofString "BadEvents") ↔ False) := iff_false_intro (by decide)
@[simp] theorem sb_Unlike_BadEvents : (Str.ofString "Unlike" == Str.ofString "BadEvents") = false := by decide
@[simp] theorem sn_Unlike_BadText : ((Str.ofString "Unlike" = Str.ofString "BadText") ↔ False) := iff_false_intro (by decide)
@[simp] theorem sb_Unlike_BadText : (Str.ofString "Unlike" == Str.ofString "BadText") = false := by decide
@[simp] theorem sn_Unlike_Together : ((Str.ofString "Unlike" = Str.ofString "Together") ↔ False) := iff_false_intro (by decide)
@[simp] theorem sb_Unlike_Together : (Str.ofString "Unlike" == Str.ofString "Together") = false := by decide
@[simp] theorem sn_Unlike_Crowded : ((Str.ofString "Unlike" = Str.ofString "Crowded") ↔ False) := iff_false_intro (by decide)
@[simp] theorem sb_Unlike_Crowded : (Str.ofString "Unlike" == Str.ofString "Crowded") = false := by decide
@[simp] theorem sn_Unlike_TooMany : ((Str.ofString "Unlike" = Str.ofString "TooMany") ↔ False) := iff_false_intro (by decide)
@[simp] theorem sb_Unlike_TooMany : (Str.ofString "Unlike" == Str.ofString "TooMany") = false := by decide
@[simp] theorem sn_Unlike_TooFar : ((Str.ofString "Unlike" = Str.ofString "TooFar") ↔ False) := iff_false_intro (by decide)
@[simp] theorem sb_Unlike_TooFar : (Str.ofString "Unlike" == Str.ofString "TooFar") = false := by decide
@[simp] theorem sn_Unlike_BeadError : ((Str.ofString "Unlike" = Str.ofString "BeadError") ↔ False) := iff_false_intro (by decide)
@[simp] theorem sb_Unlike_BeadError : (Str.ofString "Unlike" == Str.ofString "BeadError") = false := by decide
@[simp] theorem sn_Together_BadShare : ((Str.ofString "Together" = Str.ofString "BadShare") ↔ False) := iff_false_intro (by decide)
@[simp] theorem sb_Together_BadShare : (Str.ofString "Together" == Str.ofString "BadShare") = false := by decide
@[simp] theorem sn_Together_BadRow : ((Str.ofString "Together" = Str.ofString "BadRow") ↔ False) := iff_false_intro (by decide)
@[simp] theorem sb_Together_BadRow : (Str.ofString "Together" == Str.ofString "BadRow") = false := by decide
@[simp] theorem sn_Together_BadBead : ((Str.ofString "Together" = Str.ofString "BadBead") ↔ False) := iff_false_intro (by decide)
@[simp] theorem sb_Together_BadBead : (Str.ofString "Together" == Str.ofString "BadBead") = false := by decide
@[simp] theorem sn_Together_BadWeight : ((Str.ofString "Together" = Str.ofString "BadWeight") ↔ False) := iff_false_intro (by decide)
@[simp] theorem sb_Together_BadWeight : (Str.ofString "Together" == Str.ofString "BadWeight") = false := by decide
@[simp] theorem sn_Together_BadMoment : ((Str.ofString "Together" = Str.ofString "BadMoment") ↔ False) := iff_false_intro (by decide)
@[simp] theorem sb_Together_BadMoment : (Str.ofString "Together" == Str.ofString "BadMoment") = false := by decide
@[simp] theorem sn_Together_BadKind : ((Str.ofString "Together" = Str.ofString "BadKind") ↔ False) := iff_false_intro (by decide)
@[simp] theorem sb_Together_BadKind : (Str.ofString "Together" == Str.ofString "BadKind") = false := by decide
@[simp] theorem sn_Together_BadEvents : ((Str.ofString "Together" = Str.ofString "BadEvents") ↔ False) := iff_false_intro (by decide)
@[simp] theorem sb_Together_BadEvents : (Str.ofString "Together" == Str.ofString "BadEvents") = false := by decide
@[simp] theorem sn_Together_BadText : ((Str.ofString "Together" = Str.ofString "BadText") ↔ False) := iff_false_intro (by decide)
@[simp] theorem sb_Together_BadText : (Str.ofString "Together" == Str.ofString "BadText") = false := by decide
@[simp] theorem sn_Together_Unlike : ((Str.ofString "Together" = Str.ofString "Unlike") ↔ False) := iff_false_intro (by decide)
@[simp] theorem sb_Together_Unlike : (Str.ofString "Together" == Str.ofString "Unlike") = false := by decide
@[simp] theorem sn_Together_Crowded : ((Str.ofString "Together" = Str.ofString "Crowded") ↔ False) := iff_false_intro (by decide)
@[simp] theorem sb_Together_Crowded : (Str.ofString "Together" == Str.ofString "Crowded") = false := by decide
@[simp] theorem sn_Together_TooMany : ((Str.ofString "Together" = Str.ofString "TooMany") ↔ False) := iff_false_intro (by decide)
@[simp] theorem sb_Together_TooMany : (Str.ofString "Together" == Str.ofString "TooMany") = false := by decide
@[simp] theorem sn_Together_TooFar : ((Str.ofString "Together" = Str.ofString "TooFar") ↔ False) := iff_false_intro (by decide)
@[simp] theorem sb_Together_TooFar : (Str.ofString "Together" == Str.ofString "TooFar") = false := by decide
@[simp] theorem sn_Together_BeadError : ((Str.ofString "Together" = Str.ofString "BeadError") ↔ False) := iff_false_intro (by decide)
@[simp] theorem sb_Together_BeadError : (Str.ofString "Together" == Str.ofString "BeadError") = false := by decide
@[simp] theorem sn_Crowded_BadShare : ((Str.ofString "Crowded" = Str.ofString "BadShare") ↔ False) := iff_false_intro (by decide)
@[simp] theorem sb_Crowded_BadShare : (Str.ofString "Crowded" == Str.ofString "BadShare") = false := by decide
@[simp] theorem sn_Crowded_BadRow : ((Str.ofString "Crowded" = Str.ofString "BadRow") ↔ False) := iff_false_intro (by decide)
@[simp] theorem sb_Crowded_BadRow : (Str.ofString "Crowded" == Str.ofString "BadRow") = false := by decide
@[simp] theorem sn_Crowded_BadBead : ((Str.ofString "Crowded" = Str.ofString "BadBead") ↔ False) := iff_false_intro (by decide)
@[simp] theorem sb_Crowded_BadBead : (Str.ofString "Crowded" == Str.ofString "BadBead") = false := by decide
@[simp] theorem sn_Crowded_BadWeight : ((Str.ofString "Crowded" = Str.ofString "BadWeight") ↔ False) := iff_false_intro (by decide)
@[simp] theorem sb_Crowded_BadWeight : (Str.ofString "Crowded" == Str.ofString "BadWeight") = false := by decide
@[simp] theorem sn_Crowded_BadMoment : ((Str.ofString "Crowded" = Str.ofString "BadMoment") ↔ False) := iff_false_intro (by decide)
@[simp] theorem sb_Crowded_BadMoment : (Str.ofString "Crowded" == Str.ofString "BadMoment") = false := by decide
@[simp] theorem sn_Crowded_BadKind : ((Str.ofString "Crowded" = Str.ofString "BadKind") ↔ False) := iff_false_intro (by decide)
@[simp] theorem sb_Crowded_BadKind : (Str.ofString "Crowded" == Str.ofString "BadKind") = false := by decide
@[simp] theorem sn_Crowded_BadEvents : ((Str.ofString "Crowded" = Str.ofString "BadEvents") ↔ False) := iff_false_intro (by decide)
@[simp] theorem sb_Crowded_BadEvents : (Str.ofString "Crowded" == Str.ofString "BadEvents") = false := by decide
@[simp] theorem sn_Crowded_BadText : ((Str.ofString "Crowded" = Str.ofString "BadText") ↔ False) := iff_false_intro (by decide)
@[simp] theorem sb_Crowded_BadText : (Str.ofString "Crowded" == Str.ofString "BadText") = false := by decide
@[simp] theorem sn_Crowded_Unlike : ((Str.ofString "Crowded" = Str.ofString "Unlike") ↔ False) := iff_false_intro (by decide)
@[simp] theorem sb_Crowded_Unlike : (Str.ofString "Crowded" == Str.ofString "Unlike") = false := by decide
@[simp] theorem sn_Crowded_Together : ((Str.ofString "Crowded" = Str.ofString "Together") ↔ False) := iff_false_intro (by decide)
@[simp] theorem sb_Crowded_Together : (Str.ofString "Crowded" == Str.ofString "Together") = false := by decide
@[simp] theorem sn_Crowded_TooMany : ((Str.ofString "Crowded" = Str.ofString "TooMany") ↔ False) := iff_false_intro (by decide)
@[simp] theorem sb_Crowded_TooMany : (Str.ofString "Crowded" == Str.ofString "TooMany") = false := by decide
@[simp] theorem sn_Crowded_TooFar : ((Str.ofString "Crowded" = Str.ofString "TooFar") ↔ False) := iff_false_intro (by decide)
@[simp] theorem sb_Crowded_TooFar : (Str.ofString "Crowded" == Str.ofString "TooFar") = false := by decide
@[simp] theorem sn_Crowded_BeadError : ((Str.ofString "Crowded" = Str.ofString "BeadError") ↔ False) := iff_false_intro (by decide)
@[simp] theorem sb_Crowded_BeadError : (Str.ofString "Crowded" == Str.ofString "BeadError") = false := by decide
@[simp] theorem sn_TooMany_BadShare : ((Str.ofString "TooMany" = Str.ofString "BadShare") ↔ False) := iff_false_intro (by decide)
@[simp] theorem sb_TooMany_BadShare : (Str.ofString "TooMany" == Str.ofString "BadShare") = false := by decide
@[simp] theorem sn_TooMany_BadRow : ((Str.ofString "TooMany" = Str.ofString "BadRow") ↔ False) := iff_false_intro (by decide)
@[simp] theorem sb_TooMany_BadRow : (Str.ofString "TooMany" == Str.ofString "BadRow") = false := by decide
@[simp] theorem sn_TooMany_BadBead : ((Str.ofString "TooMany" = Str.ofString "BadBead") ↔ False) := iff_false_intro (by decide)
@[simp] theorem sb_TooMany_BadBead : (Str.ofString "TooMany" == Str.ofString "BadBead") = false := by decide
@[simp] theorem sn_TooMany_BadWeight : ((Str.ofString "TooMany" = Str.ofString "BadWeight") ↔ False) := iff_false_intro (by decide)
@[simp] theorem sb_TooMany_BadWeight : (Str.ofString "TooMany" == Str.ofString "BadWeight") = false := by decide
@[simp] theorem sn_TooMany_BadMoment : ((Str.ofString "TooMany" = Str.ofString "BadMoment") ↔ False) := iff_false_intro (by decide)
@[simp] theorem sb_TooMany_BadMoment : (Str.ofString "TooMany" == Str.ofString "BadMoment") = false := by decide
@[simp] theorem sn_TooMany_BadKind : ((Str.ofString "TooMany" = Str.ofString "BadKind") ↔ False) := iff_false_intro (by decide)
@[simp] theorem sb_TooMany_BadKind : (Str.ofString "TooMany" == Str.ofString "BadKind") = false := by decide
@[simp] theorem sn_TooMany_BadEvents : ((Str.ofString "TooMany" = Str.ofString "BadEvents") ↔ False) := iff_false_intro (by decide)
@[simp] theorem sb_TooMany_BadEvents : (Str.ofString "TooMany" == Str.ofString "BadEvents") = false := by decide
@[simp] theorem sn_TooMany_BadText : ((Str.ofString "TooMany" = Str.ofString "BadText") ↔ False) := iff_false_intro (by decide)
@[simp] theorem sb_TooMany_BadText : (Str.ofString "TooMany" == Str.ofString "BadText") = false := by decide
@[simp] theorem sn_TooMany_Unlike : ((Str.ofString "TooMany" = Str.ofString "Unlike") ↔ False) := iff_false_intro (by decide)
@[simp] theorem sb_TooMany_Unlike : (Str.ofString "TooMany" == Str.ofString "Unlike") = false := by decide
@[simp] theorem sn_TooMany_Together : ((Str.ofString "TooMany" = Str.ofString "Together") ↔ False) := iff_false_intro (by decide)
@[simp] theorem sb_TooMany_Together : (Str.ofString "TooMany" == Str.ofString "Together") = false := by decide
@[simp] theorem sn_TooMany_Crowded : ((Str.ofString "TooMany" = Str.ofString "Crowded") ↔ False) := iff_false_intro (by decide)
@[simp] theorem sb_TooMany_Crowded : (Str.ofString "TooMany" == Str.ofString "Crowded") = false := by decide
@[simp] theorem sn_TooMany_TooFar : ((Str.ofString "TooMany" = Str.ofString "TooFar") ↔ False) := iff_false_intro (by decide)
@[simp] theorem sb_TooMany_TooFar : (Str.ofString "TooMany" == Str.ofString "TooFar") = false := by decide
@[simp] theorem sn_TooMany_BeadError : ((Str.ofString "TooMany" = Str.ofString "BeadError") ↔ False) := iff_false_intro (by decide)
@[simp] theorem sb_TooMany_BeadError : (Str.ofString "TooMany" == Str.ofString "BeadError") = false := by decide
@[simp] theorem sn_TooFar_BadShare : ((Str.ofString "TooFar" = Str.ofString "BadShare") ↔ False) := iff_false_intro (by decide)
@[simp] theorem sb_TooFar_BadShare : (Str.ofString "TooFar" == Str.ofString "BadShare") = false := by decide
@[simp] theorem sn_TooFar_BadRow : ((Str.ofString "TooFar" = Str.ofString "BadRow") ↔ False) := iff_false_intro (by decide)
@[simp] theorem sb_TooFar_BadRow : (Str.ofString "TooFar" == Str.ofString "BadRow") = false := by decide
@[simp] theorem sn_TooFar_BadBead : ((Str.ofString "TooFar" = Str.ofString "BadBead") ↔ False) := iff_false_intro (by decide)
@[simp] theorem sb_TooFar_BadBead : (Str.ofString "TooFar" == Str.ofString "BadBead") = false := by decide
@[simp] theorem sn_TooFar_BadWeight : ((Str.ofString "TooFar" = Str.ofString "BadWeight") ↔ False) := iff_false_intro (by decide)
@[simp] theorem sb_TooFar_BadWeight : (Str.ofString "TooFar" == Str.ofString "BadWeight") = false := by decide
@[simp] theorem sn_TooFar_BadMoment : ((Str.ofString "TooFar" = Str.ofString "BadMoment") ↔ False) := iff_false_intro (by decide)
@[simp] theorem sb_TooFar_BadMoment : (Str.ofString "TooFar" == Str.ofString "BadMoment") = false := by decide
@[simp] theorem sn_TooFar_BadKind : ((Str.ofString "TooFar" = Str.ofString "BadKind") ↔ False) := iff_false_intro (by decide)
@[simp] theorem sb_TooFar_BadKind : (Str.ofString "TooFar" == Str.ofString "BadKind") = false := by decide
@[simp] theorem sn_TooFar_BadEvents : ((Str.ofString "TooFar" = Str.ofString "BadEvents") ↔ False) := iff_false_intro (by decide)
@[simp] theorem sb_TooFar_BadEvents : (Str.ofString "TooFar" == Str.ofString "BadEvents") = false := by decide
@[simp] theorem sn_TooFar_BadText : ((Str.ofString "TooFar" = Str.ofString "BadText") ↔ False) := iff_false_intro (by decide)
@[simp] theorem sb_TooFar_BadText : (Str.ofString "TooFar" == Str.ofString "BadText") = false := by decide
@[simp] theorem sn_TooFar_Unlike : ((Str.ofString "TooFar" = Str.ofString "Unlike") ↔ False) := iff_false_intro (by decide)
@[simp] theorem sb_TooFar_Unlike : (Str.ofString "TooFar" == Str.ofString "Unlike") = false := by decide
@[simp] theorem sn_TooFar_Together : ((Str.ofString "TooFar" = Str.ofString "Together") ↔ False) := iff_false_intro (by decide)
@[simp] theorem sb_TooFar_Together : (Str.ofString "TooFar" == Str.ofString "Together") = false := by decide
@[simp] theorem sn_TooFar_Crowded : ((Str.ofString "TooFar" = Str.ofString "Crowded") ↔ False) := iff_false_intro (by decide)
@[simp] theorem sb_TooFar_Crowded : (Str.ofString "TooFar" == Str.ofString "Crowded") = false := by decide
@[simp] theorem sn_TooFar_TooMany : ((Str.ofString "TooFar" = Str.ofString "TooMany") ↔ False) := iff_false_intro (by decide)
@[simp] theorem sb_TooFar_TooMany : (Str.ofString "TooFar" == Str.ofString "TooMany") = false := by decide
@[simp] theorem sn_TooFar_BeadError : ((Str.ofString "TooFar" = Str.ofString "BeadError") ↔ False) := iff_false_intro (by decide)
@[simp] theorem sb_TooFar_BeadError : (Str.ofString "TooFar" == Str.ofString "BeadError") = false := by decide
@[simp] theorem sn_BeadError_BadShare : ((Str.ofString "BeadError" = Str.ofString "BadShare") ↔ False) := iff_false_intro (by decide)
@[simp] theorem sb_BeadError_BadShare : (Str.ofString "BeadError" == Str.ofString "BadShare") = false := by decide
@[simp] theorem sn_BeadError_BadRow : ((Str.ofString "BeadError" = Str.ofString "BadRow") ↔ False) := iff_false_intro (by decide)
@[simp] theorem sb_BeadError_BadRow : (Str.ofString "BeadError" == Str.ofString "BadRow") = false := by decide
@[simp] theorem sn_BeadError_BadBead : ((Str.ofString "BeadError" = Str.ofString "BadBead") ↔ False) := iff_false_intro (by decide)
@[simp] theorem sb_BeadError_BadBead : (Str.ofString "BeadError" == Str.ofString "BadBead") = false := by decide
@[simp] theorem sn_BeadError_BadWeight : ((Str.ofString "BeadError" = Str.ofString "BadWeight") ↔ False) := iff_false_intro (by decide)
@[simp] theorem sb_BeadError_BadWeight : (Str.ofString "BeadError" == Str.ofString "BadWeight") = false := by decide
@[simp] theorem sn_BeadError_BadMoment : ((Str.ofString "BeadError" = Str.ofString "BadMoment") ↔ False) := iff_false_intro (by decide)
@[simp] theorem sb_BeadError_BadMoment : (Str.ofString "BeadError" == Str.ofString "BadMoment") = false := by decide
@[simp] theorem sn_BeadError_BadKind : ((Str.ofString "BeadError" = Str.ofString "BadKind") ↔ False) := iff_false_intro (by decide)
@[simp] theorem sb_BeadError_BadKind : (Str.ofString "BeadError" == Str.ofString "BadKind") = false := by decide
@[simp] theorem sn_BeadError_BadEvents : ((Str.ofString "BeadError" = Str.ofString "BadEvents") ↔ False) := iff_false_intro (by decide)
@[simp] theorem sb_BeadError_BadEvents : (Str.ofString "BeadError" == Str.ofString "BadEvents") = false := by decide
@[simp] theorem sn_BeadError_BadText : ((Str.ofString "BeadError" = Str.ofString "BadText") ↔ False) := iff_false_intro (by decide)
@[simp] theorem sb_BeadError_BadText : (Str.ofString "BeadError" == Str.ofString "BadText") = false := by decide
@[simp] theorem sn_BeadError_Unlike : ((Str.ofString "BeadError" = Str.ofString "Unlike") ↔ False) := iff_false_intro (by decide)
@[simp] theorem sb_BeadError_Unlike : (Str.ofString "BeadError" == Str.ofString "Unlike") = false := by decide
@[simp] theorem sn_BeadError_Together : ((Str.ofString "BeadError" = Str.ofString "Together") ↔ False) := iff_false_intro (by decide)
@[simp] theorem sb_BeadError_Together : (Str.ofString "BeadError" == Str.ofString "Together") = false := by decide
@[simp] theorem sn_BeadError_Crowded : ((Str.ofString "BeadError" = Str.ofString "Crowded") ↔ False) := iff_false_intro (by decide)
@[simp] theorem sb_BeadError_Crowded : (Str.ofString "BeadError" == Str.ofString "Crowded") = false := by decide
@[simp] theorem sn_BeadError_TooMany : ((Str.ofString "BeadError" = Str.ofString "TooMany") ↔ False) := iff_false_intro (by decide)
@[simp] theorem sb_BeadError_TooMany : (Str.ofString "BeadError" == Str.ofString "TooMany") = false := by decide
@[simp] theorem sn_BeadError_TooFar : ((Str.ofString "BeadError" = Str.ofString "TooFar") ↔ False) := iff_false_intro (by decide)
@[simp] theorem sb_BeadError_TooFar : (Str.ofString "BeadError" == Str.ofString "TooFar") = false := by decide
@[simp] theorem sn_stick_bounce : ((Str.ofString "stick" = Str.ofString "bounce") ↔ False) := iff_false_intro (by decide)
@[simp] theorem sb_stick_bounce : (Str.ofString "stick" == Str.ofString "bounce") = false := by decide
@[simp] theorem sn_bounce_stick : ((Str.ofString "bounce" = Str.ofString "stick") ↔ False) := iff_false_intro (by decide)
@[simp] theorem sb_bounce_stick : (Str.ofString "bounce" == Str.ofString "stick") = false := by decide
end
end Bd

namespace Bd
noncomputable section
open PySem L2
abbrev S_is_number : SI :=
  (sRet (eAnd (eB kIsi (aCons (eVar 0) (aCons (eC (.ty .int)) aNil))) (eNot (eB kIsi (aCons (eVar 0) (aCons (eC (.ty .bool)) aNil))))))
def F_is_number : FI := toF 1 S_is_number
abbrev S_common : SI :=
  (sSeq (sPar2 0 1 (aCons (eB kAbs (aCons (eVar 0) aNil)) (aCons (eB kAbs (aCons (eVar 1) aNil)) aNil)))
  (sSeq (sWhile (bOf (eBin kGt (eVar 1) (eC (.int 0)))) (sPar2 0 1 (aCons (eVar 1) (aCons (eBin kMod (eVar 0) (eVar 1)) aNil))))
  (sRet (eVar 0))))
def F_common : FI := toF 2 S_common
abbrev S_lowest : SI :=
  (sSeq (sAsg (.nm 2) (eCallP F_common [] (aCons (eVar 0) (aCons (eVar 1) aNil))))
  (sSeq (sIf (bOf (eBin kLt (eVar 1) (eC (.int 0)))) (sAsg (.nm 2) (eUn kNeg (eVar 2))) sPass)
  (sRet (eTup (aCons (eBin kDiv (eVar 0) (eVar 2)) (aCons (eBin kDiv (eVar 1) (eVar 2)) aNil))))))
def F_lowest : FI := toF 3 S_lowest
abbrev S_is_share : SI :=
  (sSeq (sIf (bOr (bNot (bTru (eB kIsi (aCons (eVar 0) (aCons (eC (.ty .tuple)) aNil))))) (bOr (bOf (eBin kNe (eB kLen (aCons (eVar 0) aNil)) (eC (.int 2)))) (bOr (bNot (bTru (eCallP F_is_number [] (aCons (eBin kIx (eVar 0) (eC (.int 0))) aNil)))) (bNot (bTru (eCallP F_is_number [] (aCons (eBin kIx (eVar 0) (eC (.int 1))) aNil))))))) (sRet (eC (.bl false))) sPass)
  (sRet (eAnd (eBin kGt (eBin kIx (eVar 0) (eC (.int 1))) (eC (.int 0))) (eBin kEq (eCallP F_common [] (aCons (eBin kIx (eVar 0) (eC (.int 0))) (aCons (eBin kIx (eVar 0) (eC (.int 1))) aNil))) (eC (.int 1))))))
def F_is_share : FI := toF 1 S_is_share
abbrev S_check_share : SI :=
  (sIf (bNot (bTru (eCallP F_is_share [] (aCons (eVar 0) aNil)))) (sRaise "BadShare") sPass)
def F_check_share : FI := toF 1 S_check_share
abbrev S_share : SI :=
  (sSeq (sIf (bOr (bNot (bTru (eCallP F_is_number [] (aCons (eVar 0) aNil)))) (bOr (bNot (bTru (eCallP F_is_number [] (aCons (eVar 1) aNil)))) (bOf (eBin kEq (eVar 1) (eC (.int 0)))))) (sRaise "BadShare") sPass)
  (sRet (eCallP F_lowest [] (aCons (eVar 0) (aCons (eVar 1) aNil)))))
def F_share : FI := toF 2 S_share
abbrev S_added : SI :=
  (sRet (eCallP F_lowest [] (aCons (eBin kAdd (eBin kMul (eBin kIx (eVar 0) (eC (.int 0))) (eBin kIx (eVar 1) (eC (.int 1)))) (eBin kMul (eBin kIx (eVar 1) (eC (.int 0))) (eBin kIx (eVar 0) (eC (.int 1))))) (aCons (eBin kMul (eBin kIx (eVar 0) (eC (.int 1))) (eBin kIx (eVar 1) (eC (.int 1)))) aNil))))
def F_added : FI := toF 2 S_added
abbrev S_less : SI :=
  (sRet (eCallP F_lowest [] (aCons (eBin kSub (eBin kMul (eBin kIx (eVar 0) (eC (.int 0))) (eBin kIx (eVar 1) (eC (.int 1)))) (eBin kMul (eBin kIx (eVar 1) (eC (.int 0))) (eBin kIx (eVar 0) (eC (.int 1))))) (aCons (eBin kMul (eBin kIx (eVar 0) (eC (.int 1))) (eBin kIx (eVar 1) (eC (.int 1)))) aNil))))
def F_less : FI := toF 2 S_less
abbrev S_product : SI :=
  (sRet (eCallP F_lowest [] (aCons (eBin kMul (eBin kIx (eVar 0) (eC (.int 0))) (eBin kIx (eVar 1) (eC (.int 0)))) (aCons (eBin kMul (eBin kIx (eVar 0) (eC (.int 1))) (eBin kIx (eVar 1) (eC (.int 1)))) aNil))))
def F_product : FI := toF 2 S_product
abbrev S_quotient : SI :=
  (sRet (eCallP F_lowest [] (aCons (eBin kMul (eBin kIx (eVar 0) (eC (.int 0))) (eBin kIx (eVar 1) (eC (.int 1)))) (aCons (eBin kMul (eBin kIx (eVar 0) (eC (.int 1))) (eBin kIx (eVar 1) (eC (.int 0)))) aNil))))
def F_quotient : FI := toF 2 S_quotient
abbrev S_plus : SI :=
  (sSeq (sExpr (eCallP F_check_share [] (aCons (eVar 0) aNil)))
  (sSeq (sExpr (eCallP F_check_share [] (aCons (eVar 1) aNil)))
  (sRet (eCallP F_added [] (aCons (eVar 0) (aCons (eVar 1) aNil))))))
def F_plus : FI := toF 2 S_plus
abbrev S_minus : SI :=
  (sSeq (sExpr (eCallP F_check_share [] (aCons (eVar 0) aNil)))
  (sSeq (sExpr (eCallP F_check_share [] (aCons (eVar 1) aNil)))
  (sRet (eCallP F_less [] (aCons (eVar 0) (aCons (eVar 1) aNil))))))
def F_minus : FI := toF 2 S_minus
abbrev S_times : SI :=
  (sSeq (sExpr (eCallP F_check_share [] (aCons (eVar 0) aNil)))
  (sSeq (sExpr (eCallP F_check_share [] (aCons (eVar 1) aNil)))
  (sRet (eCallP F_product [] (aCons (eVar 0) (aCons (eVar 1) aNil))))))
def F_times : FI := toF 2 S_times
abbrev S_over : SI :=
  (sSeq (sExpr (eCallP F_check_share [] (aCons (eVar 0) aNil)))
  (sSeq (sExpr (eCallP F_check_share [] (aCons (eVar 1) aNil)))
  (sSeq (sIf (bOf (eBin kEq (eBin kIx (eVar 1) (eC (.int 0))) (eC (.int 0)))) (sRaise "BadShare") sPass)
  (sRet (eCallP F_quotient [] (aCons (eVar 0) (aCons (eVar 1) aNil)))))))
def F_over : FI := toF 2 S_over
abbrev S_law_number : SI :=
  (sSeq (sIf (bOf (eBin kGe (eVar 0) (eBin kPow (eC (.int 10)) (eC (.int 18))))) (sRet (eVar 0)) sPass)
  (sSeq (sAsg (.nm 3) (eBin kMod (eBin kAdd (eBin kMul (eBin kAdd (eVar 0) (eBin kMul (eC (.int 977)) (eVar 1))) (eC (.int 48271))) (eVar 2)) (eC (.int 2147483647))))
  (sSeq (sAsg (.nm 4) (eBin kMul (eBin kMul (eVar 3) (eBin kAdd (eBin kAdd (eVar 3) (eBin kMul (eC (.int 31)) (eVar 1))) (eC (.int 7)))) (eBin kAdd (eBin kAdd (eVar 3) (eVar 0)) (eC (.int 5)))))
  (sRet (eBin kDiv (eBin kMul (eVar 4) (eBin kAdd (eVar 4) (eC (.int 48271)))) (eC (.int 1009)))))))
def F_law_number : FI := toF 5 S_law_number
abbrev S_law_low : SI :=
  (sSeq (sPar2 2 3 (aCons (eB kAbs (aCons (eVar 0) aNil)) (aCons (eVar 1) aNil)))
  (sSeq (sWhile (bOf (eBin kGt (eVar 3) (eC (.int 0)))) (sPar2 2 3 (aCons (eVar 3) (aCons (eBin kMod (eVar 2) (eVar 3)) aNil))))
  (sRet (eTup (aCons (eBin kDiv (eVar 0) (eVar 2)) (aCons (eBin kDiv (eVar 1) (eVar 2)) aNil))))))
def F_law_low : FI := toF 4 S_law_low
abbrev S_law_whole : SI :=
  (sRet (eAnd (eB kIsi (aCons (eVar 0) (aCons (eC (.ty .int)) aNil))) (eNot (eB kIsi (aCons (eVar 0) (aCons (eC (.ty .bool)) aNil))))))
def F_law_whole : FI := toF 1 S_law_whole
abbrev S_law_is_share : SI :=
  (sSeq (sIf (bOr (bNot (bTru (eB kIsi (aCons (eVar 0) (aCons (eC (.ty .tuple)) aNil))))) (bOr (bOf (eBin kNe (eB kLen (aCons (eVar 0) aNil)) (eC (.int 2)))) (bOr (bNot (bTru (eCallP F_law_whole [] (aCons (eBin kIx (eVar 0) (eC (.int 0))) aNil)))) (bNot (bTru (eCallP F_law_whole [] (aCons (eBin kIx (eVar 0) (eC (.int 1))) aNil))))))) (sRet (eC (.bl false))) sPass)
  (sRet (eAnd (eBin kGt (eBin kIx (eVar 0) (eC (.int 1))) (eC (.int 0))) (eBin kEq (eCallP F_law_low [] (aCons (eBin kIx (eVar 0) (eC (.int 0))) (aCons (eBin kIx (eVar 0) (eC (.int 1))) aNil))) (eVar 0)))))
def F_law_is_share : FI := toF 1 S_law_is_share
abbrev S_law_same : SI :=
  (sSeq (sIf (bNot (bTru (eCallP F_law_is_share [] (aCons (eVar 0) aNil)))) (sRet (eC (.bl false))) sPass)
  (sRet (eBin kEq (eBin kMul (eBin kIx (eVar 0) (eC (.int 0))) (eVar 2)) (eBin kMul (eBin kIx (eVar 0) (eC (.int 1))) (eVar 1)))))
def F_law_same : FI := toF 3 S_law_same
abbrev S_sign : SI :=
  (sSeq (sAsg (.nm 2) (eBin kSub (eBin kMul (eBin kIx (eVar 0) (eC (.int 0))) (eBin kIx (eVar 1) (eC (.int 1)))) (eBin kMul (eBin kIx (eVar 1) (eC (.int 0))) (eBin kIx (eVar 0) (eC (.int 1))))))
  (sRet (eIf (bOf (eBin kGt (eVar 2) (eC (.int 0)))) (eC (.int 1)) (eIf (bOf (eBin kEq (eVar 2) (eC (.int 0)))) (eC (.int 0)) (eUn kNeg (eC (.int 1)))))))
def F_sign : FI := toF 3 S_sign
abbrev S_order : SI :=
  (sSeq (sExpr (eCallP F_check_share [] (aCons (eVar 0) aNil)))
  (sSeq (sExpr (eCallP F_check_share [] (aCons (eVar 1) aNil)))
  (sRet (eCallP F_sign [] (aCons (eVar 0) (aCons (eVar 1) aNil))))))
def F_order : FI := toF 2 S_order
abbrev S_law_far : SI :=
  (sRet (eBin kSub (eBin kMul (eBin kIx (eVar 0) (eC (.int 0))) (eBin kIx (eVar 1) (eC (.int 1)))) (eBin kMul (eBin kIx (eVar 1) (eC (.int 0))) (eBin kIx (eVar 0) (eC (.int 1))))))
def F_law_far : FI := toF 2 S_law_far
abbrev S_law_alone : SI :=
  (sSeq (sAsg (.nm 2) (eLstN (aCons (eB (kIsE ["BadBead", "BadRow", "BadShare", "BadKind", "BadMoment", "BadWeight", "Unlike", "BadText", "BadEvents", "TooMany", "Crowded", "Together", "TooFar"]) (aCons (eVar 0) (aCons (eC (.gl "BadShare")) aNil))) (aCons (eB (kIsE ["BadBead", "BadRow", "BadShare", "BadKind", "BadMoment", "BadWeight", "Unlike", "BadText", "BadEvents", "TooMany", "Crowded", "Together", "TooFar"]) (aCons (eVar 0) (aCons (eC (.gl "BadRow")) aNil))) (aCons (eB (kIsE ["BadBead", "BadRow", "BadShare", "BadKind", "BadMoment", "BadWeight", "Unlike", "BadText", "BadEvents", "TooMany", "Crowded", "Together", "TooFar"]) (aCons (eVar 0) (aCons (eC (.gl "BadBead")) aNil))) aNil)))))
  (sSeq (sAsg (.nm 2) (eBin kAddN (eVar 2) (eLst (aCons (eB (kIsE ["BadBead", "BadRow", "BadShare", "BadKind", "BadMoment", "BadWeight", "Unlike", "BadText", "BadEvents", "TooMany", "Crowded", "Together", "TooFar"]) (aCons (eVar 0) (aCons (eC (.gl "BadWeight")) aNil))) (aCons (eB (kIsE ["BadBead", "BadRow", "BadShare", "BadKind", "BadMoment", "BadWeight", "Unlike", "BadText", "BadEvents", "TooMany", "Crowded", "Together", "TooFar"]) (aCons (eVar 0) (aCons (eC (.gl "BadMoment")) aNil))) (aCons (eB (kIsE ["BadBead", "BadRow", "BadShare", "BadKind", "BadMoment", "BadWeight", "Unlike", "BadText", "BadEvents", "TooMany", "Crowded", "Together", "TooFar"]) (aCons (eVar 0) (aCons (eC (.gl "BadKind")) aNil))) aNil))))))
  (sSeq (sAsg (.nm 2) (eBin kAddN (eVar 2) (eLst (aCons (eB (kIsE ["BadBead", "BadRow", "BadShare", "BadKind", "BadMoment", "BadWeight", "Unlike", "BadText", "BadEvents", "TooMany", "Crowded", "Together", "TooFar"]) (aCons (eVar 0) (aCons (eC (.gl "BadEvents")) aNil))) (aCons (eB (kIsE ["BadBead", "BadRow", "BadShare", "BadKind", "BadMoment", "BadWeight", "Unlike", "BadText", "BadEvents", "TooMany", "Crowded", "Together", "TooFar"]) (aCons (eVar 0) (aCons (eC (.gl "BadText")) aNil))) (aCons (eB (kIsE ["BadBead", "BadRow", "BadShare", "BadKind", "BadMoment", "BadWeight", "Unlike", "BadText", "BadEvents", "TooMany", "Crowded", "Together", "TooFar"]) (aCons (eVar 0) (aCons (eC (.gl "Unlike")) aNil))) aNil))))))
  (sSeq (sAsg (.nm 2) (eBin kAddN (eVar 2) (eLst (aCons (eB (kIsE ["BadBead", "BadRow", "BadShare", "BadKind", "BadMoment", "BadWeight", "Unlike", "BadText", "BadEvents", "TooMany", "Crowded", "Together", "TooFar"]) (aCons (eVar 0) (aCons (eC (.gl "Together")) aNil))) (aCons (eB (kIsE ["BadBead", "BadRow", "BadShare", "BadKind", "BadMoment", "BadWeight", "Unlike", "BadText", "BadEvents", "TooMany", "Crowded", "Together", "TooFar"]) (aCons (eVar 0) (aCons (eC (.gl "Crowded")) aNil))) (aCons (eB (kIsE ["BadBead", "BadRow", "BadShare", "BadKind", "BadMoment", "BadWeight", "Unlike", "BadText", "BadEvents", "TooMany", "Crowded", "Together", "TooFar"]) (aCons (eVar 0) (aCons (eC (.gl "TooMany")) aNil))) aNil))))))
  (sSeq (sExpr (eM mApp (eVar 2) (aCons (eB (kIsE ["BadBead", "BadRow", "BadShare", "BadKind", "BadMoment", "BadWeight", "Unlike", "BadText", "BadEvents", "TooMany", "Crowded", "Together", "TooFar"]) (aCons (eVar 0) (aCons (eC (.gl "TooFar")) aNil))) aNil)))
  (sRet (eAnd (eBin kEq (eVar 2) (eComp (iRange1 (eC (.int 13))) (.nm 3) [3] bYes (eBin kEq (eVar 3) (eVar 1)))) (eB (kIsE ["BadBead", "BadRow", "BadShare", "BadKind", "BadMoment", "BadWeight", "Unlike", "BadText", "BadEvents", "TooMany", "Crowded", "Together", "TooFar"]) (aCons (eVar 0) (aCons (eC (.ty .verr)) aNil))))))))))
def F_law_alone : FI := toF 4 S_law_alone
abbrev S_law_with_numbers : SI :=
  (sRet (eIf (bOf (eBin kEq (eVar 0) (eC (.int 0)))) (eCallP F_share [] (aCons (eVar 1) (aCons (eC (.int 3)) aNil))) (eCallP F_share [] (aCons (eC (.int 5)) (aCons (eVar 1) aNil)))))
def F_law_with_numbers : FI := toF 2 S_law_with_numbers
abbrev S_law_with_share : SI :=
  (sSeq (sIf (bOf (eBin kLt (eVar 0) (eC (.int 4)))) (sSeq (sAsg (.tp [(.nm 2), (.nm 3)]) (eIf (bOf (eBin kEq (eBin kMod (eVar 0) (eC (.int 2))) (eC (.int 0)))) (eTup (aCons (eVar 1) (aCons (eTup (aCons (eC (.int 1)) (aCons (eC (.int 2)) aNil))) aNil))) (eTup (aCons (eTup (aCons (eC (.int 1)) (aCons (eC (.int 2)) aNil))) (aCons (eVar 1) aNil)))))
  (sRet (eIf (bOf (eBin kLt (eVar 0) (eC (.int 2)))) (eCallP F_plus [] (aCons (eVar 2) (aCons (eVar 3) aNil))) (eCallP F_minus [] (aCons (eVar 2) (aCons (eVar 3) aNil)))))) sPass)
  (sSeq (sIf (bOf (eBin kLt (eVar 0) (eC (.int 8)))) (sSeq (sAsg (.tp [(.nm 2), (.nm 3)]) (eIf (bOf (eBin kEq (eBin kMod (eVar 0) (eC (.int 2))) (eC (.int 0)))) (eTup (aCons (eVar 1) (aCons (eTup (aCons (eC (.int 1)) (aCons (eC (.int 2)) aNil))) aNil))) (eTup (aCons (eTup (aCons (eC (.int 1)) (aCons (eC (.int 2)) aNil))) (aCons (eVar 1) aNil)))))
  (sRet (eIf (bOf (eBin kLt (eVar 0) (eC (.int 6)))) (eCallP F_times [] (aCons (eVar 2) (aCons (eVar 3) aNil))) (eCallP F_over [] (aCons (eVar 2) (aCons (eVar 3) aNil)))))) sPass)
  (sRet (eIf (bOf (eBin kEq (eVar 0) (eC (.int 8)))) (eCallP F_order [] (aCons (eVar 1) (aCons (eTup (aCons (eC (.int 1)) (aCons (eC (.int 2)) aNil))) aNil))) (eCallP F_order [] (aCons (eTup (aCons (eC (.int 1)) (aCons (eC (.int 2)) aNil))) (aCons (eVar 1) aNil)))))))
def F_law_with_share : FI := toF 4 S_law_with_share
abbrev S_law_refused : SI :=
  (sSeq (sTry ["BadShare"] (some 3) (sExpr (eCallV [("_law_with_numbers", F_law_with_numbers), ("_law_with_share", F_law_with_share), ("share", F_share), ("over", F_over)] 0 (aCons (eVar 1) (aCons (eVar 2) aNil)))) (sRet (eCallP F_law_alone [] (aCons (eVar 3) (aCons (eC (.int 0)) aNil)))))
  (sRet (eC (.bl false))))
def F_law_refused : FI := toF 4 S_law_refused
abbrev S_law_no_numbers : SI :=
  (sRet (eLst (aCons (eC .non) (aCons (eC (.bl true)) (aCons (eC (.bl false)) (aCons (eC (.str "3")) (aCons (eLst (aCons (eC (.int 3)) aNil)) (aCons (eTup (aCons (eC (.int 3)) aNil)) (aCons eDct (aCons (eTup (aCons (eC (.int 1)) (aCons (eC (.int 2)) aNil))) aNil))))))))))
def F_law_no_numbers : FI := toF 1 S_law_no_numbers
abbrev S_law_no_shares : SI :=
  (sSeq (sAsg (.nm 1) (eLst (aCons (eC .non) (aCons (eC (.int 3)) (aCons (eC (.bl true)) (aCons (eC (.str "1/2")) (aCons (eLst (aCons (eC (.int 1)) (aCons (eC (.int 2)) aNil))) (aCons (eTup (aCons (eC (.int 1)) aNil)) (aCons (eTup (aCons (eC (.int 1)) (aCons (eC (.int 2)) (aCons (eC (.int 3)) aNil)))) (aCons eDct (aCons (eTup (aCons (eC .non) (aCons (eC (.int 1)) aNil))) (aCons (eTup (aCons (eC (.int 1)) (aCons (eC .non) aNil))) (aCons (eTup (aCons (eC (.bl true)) (aCons (eC (.int 2)) aNil))) (aCons (eTup (aCons (eC (.int 1)) (aCons (eC (.bl true)) aNil))) (aCons (eTup (aCons (eC (.int 2)) (aCons (eC (.int 4)) aNil))) aNil)))))))))))))))
  (sRet (eBin kAdd (eVar 1) (eLst (aCons (eTup (aCons (eC (.int 0)) (aCons (eC (.int 2)) aNil))) (aCons (eTup (aCons (eC (.int 1)) (aCons (eC (.int 0)) aNil))) (aCons (eTup (aCons (eC (.int 1)) (aCons (eUn kNeg (eC (.int 2))) aNil))) (aCons (eTup (aCons (eC (.int 1)) (aCons (eBin kSub (eUn kNeg (eC (.int 1))) (eVar 0)) aNil))) (aCons (eTup (aCons (eBin kAdd (eBin kMul (eC (.int 2)) (eVar 0)) (eC (.int 2))) (aCons (eBin kAdd (eBin kMul (eC (.int 4)) (eVar 0)) (eC (.int 4))) aNil))) (aCons (eTup (aCons (eBin kAdd (eVar 0) (eC (.int 1))) (aCons (eC (.int 0)) aNil))) aNil))))))))))
def F_law_no_shares : FI := toF 2 S_law_no_shares
abbrev S_is_mild : SI :=
  (sRet (eAnd (eCallP F_is_share [] (aCons (eVar 0) aNil)) (eAnd (eBin kLe (eB kAbs (aCons (eBin kIx (eVar 0) (eC (.int 0))) aNil)) (eC (.int 1000000))) (eBin kLe (eBin kIx (eVar 0) (eC (.int 1))) (eC (.int 60))))))
def F_is_mild : FI := toF 1 S_is_mild
abbrev S_is_bead : SI :=
  (sSeq (sIf (bOr (bNot (bTru (eB kIsi (aCons (eVar 0) (aCons (eC (.ty .tuple)) aNil))))) (bOr (bOf (eBin kNe (eB kLen (aCons (eVar 0) aNil)) (eC (.int 3)))) (bNot (bTru (eCallP F_is_number [] (aCons (eBin kIx (eVar 0) (eC (.int 0))) aNil)))))) (sRet (eC (.bl false))) sPass)
  (sRet (eAnd (eChain kLe kLe (eC (.int 1)) (eBin kIx (eVar 0) (eC (.int 0))) (eC (.int 60))) (eAnd (eCallP F_is_mild [] (aCons (eBin kIx (eVar 0) (eC (.int 1))) aNil)) (eCallP F_is_mild [] (aCons (eBin kIx (eVar 0) (eC (.int 2))) aNil))))))
def F_is_bead : FI := toF 1 S_is_bead
abbrev S_check_row : SI :=
  (sSeq (sIf (bOr (bNot (bTru (eB kIsi (aCons (eVar 0) (aCons (eC (.ty .list)) aNil))))) (bOr (bNot (bOf (eChain kLe kLe (eC (.int 1)) (eB kLen (aCons (eVar 0) aNil)) (eC (.int 10))))) (bNot (bTru (eB kAll (aCons (eComp (iSeq (eVar 0)) (.nm 2) [2] bYes (eCallP F_is_bead [] (aCons (eVar 2) aNil))) aNil)))))) (sRaise "BadRow") sPass)
  (sIf (bTru (eB kAny (aCons (eComp (iRange2 (eC (.int 1)) (eB kLen (aCons (eVar 0) aNil))) (.nm 1) [1] bYes (eBin kGe (eCallP F_sign [] (aCons (eBin kIx (eBin kIx (eVar 0) (eBin kSub (eVar 1) (eC (.int 1)))) (eC (.int 1))) (aCons (eBin kIx (eBin kIx (eVar 0) (eVar 1)) (eC (.int 1))) aNil))) (eC (.int 0)))) aNil))) (sRaise "BadRow") sPass))
def F_check_row : FI := toF 3 S_check_row
abbrev S_check_bead : SI :=
  (sIf (bOr (bNot (bTru (eCallP F_is_number [] (aCons (eVar 1) aNil)))) (bNot (bOf (eChain kLe kLt (eC (.int 0)) (eVar 1) (eB kLen (aCons (eVar 0) aNil)))))) (sRaise "BadBead") sPass)
def F_check_bead : FI := toF 2 S_check_bead
abbrev S_check_stretch : SI :=
  (sSeq (sExpr (eCallP F_check_bead [] (aCons (eVar 0) (aCons (eVar 1) aNil))))
  (sSeq (sExpr (eCallP F_check_bead [] (aCons (eVar 0) (aCons (eVar 2) aNil))))
  (sIf (bOf (eBin kLt (eVar 2) (eVar 1))) (sRaise "BadBead") sPass)))
def F_check_stretch : FI := toF 3 S_check_stretch
abbrev S_is_moment : SI :=
  (sRet (eAnd (eCallP F_is_share [] (aCons (eVar 0) aNil)) (eBin kGe (eBin kIx (eVar 0) (eC (.int 0))) (eC (.int 0)))))
def F_is_moment : FI := toF 1 S_is_moment
abbrev S_check_moment : SI :=
  (sIf (bNot (bTru (eCallP F_is_moment [] (aCons (eVar 0) aNil)))) (sRaise "BadMoment") sPass)
def F_check_moment : FI := toF 1 S_check_moment
abbrev S_weight_in : SI :=
  (sRet (eB kSum (aCons (eComp (iSeq (eSl (eVar 0) (pSome (eVar 1)) (pSome (eBin kAdd (eVar 2) (eC (.int 1)))))) (.nm 3) [3] bYes (eBin kIx (eVar 3) (eC (.int 0)))) aNil)))
def F_weight_in : FI := toF 4 S_weight_in
abbrev S_sum_in : SI :=
  (sSeq (sAsg (.nm 4) (eTup (aCons (eC (.int 0)) (aCons (eC (.int 1)) aNil))))
  (sSeq (sFor (iSeq (eSl (eVar 0) (pSome (eVar 1)) (pSome (eBin kAdd (eVar 2) (eC (.int 1)))))) (.nm 5) (sAsg (.nm 4) (eCallP F_added [] (aCons (eVar 4) (aCons (eCallP F_product [] (aCons (eTup (aCons (eBin kIx (eVar 5) (eC (.int 0))) (aCons (eC (.int 1)) aNil))) (aCons (eBin kIx (eVar 5) (eVar 3)) aNil))) aNil)))))
  (sRet (eVar 4))))
def F_sum_in : FI := toF 6 S_sum_in
abbrev S_at_moment : SI :=
  (sRet (eCallP F_added [] (aCons (eBin kIx (eVar 0) (eC (.int 0))) (aCons (eCallP F_product [] (aCons (eBin kIx (eVar 0) (eC (.int 1))) (aCons (eVar 1) aNil))) aNil))))
def F_at_moment : FI := toF 2 S_at_moment
abbrev S_line_in : SI :=
  (sSeq (sAsg (.nm 3) (eTup (aCons (eCallP F_weight_in [] (aCons (eVar 0) (aCons (eVar 1) (aCons (eVar 2) aNil)))) (aCons (eC (.int 1)) aNil))))
  (sRet (eTup (aCons (eCallP F_quotient [] (aCons (eCallP F_sum_in [] (aCons (eVar 0) (aCons (eVar 1) (aCons (eVar 2) (aCons (eC (.int 1)) aNil))))) (aCons (eVar 3) aNil))) (aCons (eCallP F_quotient [] (aCons (eCallP F_sum_in [] (aCons (eVar 0) (aCons (eVar 1) (aCons (eVar 2) (aCons (eC (.int 2)) aNil))))) (aCons (eVar 3) aNil))) aNil)))))
def F_line_in : FI := toF 4 S_line_in
abbrev S_middle_in : SI :=
  (sRet (eCallP F_at_moment [] (aCons (eCallP F_line_in [] (aCons (eVar 0) (aCons (eVar 1) (aCons (eVar 2) aNil)))) (aCons (eVar 3) aNil))))
def F_middle_in : FI := toF 4 S_middle_in
abbrev S_weight_of : SI :=
  (sSeq (sExpr (eCallP F_check_row [] (aCons (eVar 0) aNil)))
  (sSeq (sExpr (eCallP F_check_stretch [] (aCons (eVar 0) (aCons (eVar 1) (aCons (eVar 2) aNil)))))
  (sRet (eCallP F_weight_in [] (aCons (eVar 0) (aCons (eVar 1) (aCons (eVar 2) aNil)))))))
def F_weight_of : FI := toF 3 S_weight_of
abbrev S_drive_of : SI :=
  (sSeq (sExpr (eCallP F_check_row [] (aCons (eVar 0) aNil)))
  (sSeq (sExpr (eCallP F_check_stretch [] (aCons (eVar 0) (aCons (eVar 1) (aCons (eVar 2) aNil)))))
  (sRet (eCallP F_sum_in [] (aCons (eVar 0) (aCons (eVar 1) (aCons (eVar 2) (aCons (eC (.int 2)) aNil))))))))
def F_drive_of : FI := toF 3 S_drive_of
abbrev S_straight : SI :=
  (sSeq (sExpr (eCallP F_check_row [] (aCons (eVar 0) aNil)))
  (sSeq (sExpr (eCallP F_check_bead [] (aCons (eVar 0) (aCons (eVar 1) aNil))))
  (sSeq (sExpr (eCallP F_check_moment [] (aCons (eVar 2) aNil)))
  (sRet (eCallP F_middle_in [] (aCons (eVar 0) (aCons (eVar 1) (aCons (eVar 1) (aCons (eVar 2) aNil)))))))))
def F_straight : FI := toF 3 S_straight
abbrev S_middle : SI :=
  (sSeq (sExpr (eCallP F_check_row [] (aCons (eVar 0) aNil)))
  (sSeq (sExpr (eCallP F_check_stretch [] (aCons (eVar 0) (aCons (eVar 1) (aCons (eVar 2) aNil)))))
  (sSeq (sExpr (eCallP F_check_moment [] (aCons (eVar 3) aNil)))
  (sRet (eCallP F_middle_in [] (aCons (eVar 0) (aCons (eVar 1) (aCons (eVar 2) (aCons (eVar 3) aNil)))))))))
def F_middle : FI := toF 4 S_middle
abbrev S_law_sum : SI :=
  (sRet (eCallP F_law_low [] (aCons (eBin kAdd (eBin kMul (eBin kIx (eVar 0) (eC (.int 0))) (eBin kIx (eVar 1) (eC (.int 1)))) (eBin kMul (eBin kIx (eVar 1) (eC (.int 0))) (eBin kIx (eVar 0) (eC (.int 1))))) (aCons (eBin kMul (eBin kIx (eVar 0) (eC (.int 1))) (eBin kIx (eVar 1) (eC (.int 1)))) aNil))))
def F_law_sum : FI := toF 2 S_law_sum
abbrev S_law_by : SI :=
  (sRet (eCallP F_law_low [] (aCons (eBin kMul (eBin kIx (eVar 0) (eC (.int 0))) (eBin kIx (eVar 1) (eC (.int 0)))) (aCons (eBin kMul (eBin kIx (eVar 0) (eC (.int 1))) (eBin kIx (eVar 1) (eC (.int 1)))) aNil))))
def F_law_by : FI := toF 2 S_law_by
abbrev S_law_there : SI :=
  (sRet (eCallP F_law_sum [] (aCons (eBin kIx (eVar 0) (eC (.int 0))) (aCons (eCallP F_law_by [] (aCons (eBin kIx (eVar 0) (eC (.int 1))) (aCons (eVar 1) aNil))) aNil))))
def F_law_there : FI := toF 2 S_law_there
abbrev S_law_row : SI :=
  (sSeq (sAsg (.nm 4) (eIf (bOf (eBin (kEmp false) (eVar 0) (eLst aNil))) (eSl (eVar 0) pNone (pSome (eC (.int 63)))) (eLst (aCons (eC (.int 2)) aNil))))
  (sSeq (sAsg (.nm 5) (eBin kAdd (eB kSum (aCons (eVar 4) aNil)) (eVar 1)))
  (sSeq (sAsg (.nm 6) (eBin kAdd (eC (.int 1)) (eBin kMod (eVar 5) (eVar 3))))
  (sSeq (sAsg (.nm 7) (eBin kIx (eTup (aCons (eC (.int 1)) (aCons (eC (.int 1)) (aCons (eC (.int 2)) (aCons (eC (.int 3)) (aCons (eC (.int 4)) (aCons (eC (.int 60)) aNil))))))) (eBin kMod (eBin kDiv (eVar 5) (eC (.int 10))) (eC (.int 6)))))
  (sSeq (sAsg (.nm 8) (eBin kIx (eTup (aCons (eC (.int 3)) (aCons (eC (.int 9)) (aCons (eC (.int 90000)) aNil)))) (eBin kMod (eBin kDiv (eVar 5) (eC (.int 60))) (eC (.int 3)))))
  (sSeq (sAsg (.nm 9) (eBin kMod (eBin kDiv (eVar 5) (eC (.int 180))) (eC (.int 4))))
  (sSeq (sAsg (.nm 10) (eBin kMul (eUn kNeg (eVar 8)) (eBin kMod (eBin kDiv (eVar 5) (eC (.int 720))) (eC (.int 6)))))
  (sSeq (sPar2 11 12 (aCons (eLstN aNil) (aCons (eCallP F_law_number [] (aCons (eVar 5) (aCons (eBin kAdd (eVar 1) (eC (.int 3))) (aCons (eC (.int 5)) aNil)))) aNil)))
  (sSeq (sPar2 13 14 (aCons (eBin kAdd (eC (.int 1)) (eBin kMod (eBin kDiv (eVar 12) (eC (.int 4320))) (eC (.int 60)))) (aCons (eBin kIx (eTup (aCons (eC (.int 3)) (aCons (eC (.int 60)) aNil))) (eBin kMod (eBin kDiv (eVar 12) (eC (.int 259200))) (eC (.int 2)))) aNil)))
  (sSeq (sFor (iRange1 (eVar 6)) (.nm 15) (sSeq (sAsg (.nm 16) (eCallP F_law_number [] (aCons (eBin kIx (eVar 4) (eBin kMod (eBin kAdd (eVar 15) (eVar 1)) (eB kLen (aCons (eVar 4) aNil)))) (aCons (eBin kAdd (eVar 15) (eBin kMul (eC (.int 11)) (eVar 1))) (aCons (eVar 5) aNil)))))
  (sSeq (sAsg (.nm 10) (eBin kAdd (eBin kAdd (eVar 10) (eC (.int 1))) (eBin kMod (eBin kDiv (eVar 16) (eC (.int 3))) (eVar 8))))
  (sSeq (sAsg (.nm 17) (eIf (bTru (eVar 2)) (eVar 13) (eBin kAdd (eC (.int 1)) (eBin kMod (eBin kDiv (eVar 16) (eC (.int 270000))) (eVar 14)))))
  (sSeq (sAsg (.nm 18) (eBin kSub (eBin kMod (eBin kDiv (eVar 16) (eC (.int 16200000))) (eBin kIx (eTup (aCons (eC (.int 5)) (aCons (eC (.int 11)) (aCons (eC (.int 41)) (aCons (eC (.int 400001)) aNil))))) (eVar 9))) (eBin kIx (eTup (aCons (eC (.int 2)) (aCons (eC (.int 5)) (aCons (eC (.int 20)) (aCons (eC (.int 200000)) aNil))))) (eVar 9))))
  (sSeq (sAsg (.nm 19) (eCallP F_law_low [] (aCons (eVar 18) (aCons (eBin kAdd (eC (.int 1)) (eBin kMod (eBin kDiv (eVar 16) (eC (.int 6480016200000))) (eBin kIx (eTup (aCons (eC (.int 1)) (aCons (eC (.int 1)) (aCons (eC (.int 4)) (aCons (eC (.int 60)) aNil))))) (eVar 9)))) aNil))))
  (sExpr (eM mApp (eVar 11) (aCons (eTup (aCons (eVar 17) (aCons (eCallP F_law_low [] (aCons (eVar 10) (aCons (eVar 7) aNil))) (aCons (eVar 19) aNil)))) aNil)))))))))
  (sRet (eVar 11))))))))))))
def F_law_row : FI := toF 20 S_law_row
abbrev S_law_moment : SI :=
  (sRet (eCallP F_law_low [] (aCons (eBin kMod (eVar 0) (eBin kIx (eTup (aCons (eC (.int 1)) (aCons (eC (.int 9)) (aCons (eC (.int 60)) (aCons (eBin kPow (eC (.int 10)) (eC (.int 9))) aNil))))) (eBin kMod (eBin kDiv (eVar 0) (eC (.int 5))) (eC (.int 4))))) (aCons (eBin kAdd (eC (.int 1)) (eBin kMod (eBin kDiv (eVar 0) (eC (.int 7))) (eBin kIx (eTup (aCons (eC (.int 1)) (aCons (eC (.int 4)) (aCons (eC (.int 30)) aNil)))) (eBin kMod (eBin kDiv (eVar 0) (eC (.int 11))) (eC (.int 3)))))) aNil))))
def F_law_moment : FI := toF 1 S_law_moment
abbrev S_law_stretch_right : SI :=
  (sSeq (sAsg (.nm 4) (eComp (iSeq (eSl (eVar 0) (pSome (eVar 1)) (pSome (eBin kAdd (eVar 2) (eC (.int 1)))))) (.nm 14) [14] bYes (eBin kIx (eVar 14) (eC (.int 0)))))
  (sSeq (sAsg (.tp [(.nm 5), (.nm 6), (.nm 7)]) (eTup (aCons (eTup (aCons (eC (.int 0)) (aCons (eC (.int 1)) aNil))) (aCons (eTup (aCons (eC (.int 0)) (aCons (eC (.int 1)) aNil))) (aCons (eTup (aCons (eC (.int 0)) (aCons (eC (.int 1)) aNil))) aNil)))))
  (sSeq (sFor (iSeq (eSl (eVar 0) (pSome (eVar 1)) (pSome (eBin kAdd (eVar 2) (eC (.int 1)))))) (.tp [(.nm 8), (.nm 9), (.nm 10)]) (sSeq (sAsg (.nm 5) (eCallP F_law_sum [] (aCons (eVar 5) (aCons (eCallP F_law_by [] (aCons (eTup (aCons (eVar 8) (aCons (eC (.int 1)) aNil))) (aCons (eVar 10) aNil))) aNil))))
  (sSeq (sAsg (.nm 6) (eCallP F_law_sum [] (aCons (eVar 6) (aCons (eCallP F_law_by [] (aCons (eTup (aCons (eVar 8) (aCons (eC (.int 1)) aNil))) (aCons (eVar 9) aNil))) aNil))))
  (sAsg (.nm 7) (eCallP F_law_sum [] (aCons (eVar 7) (aCons (eCallP F_law_by [] (aCons (eTup (aCons (eVar 8) (aCons (eC (.int 1)) aNil))) (aCons (eCallP F_law_there [] (aCons (eTup (aCons (eVar 9) (aCons (eVar 10) aNil))) (aCons (eVar 3) aNil))) aNil))) aNil)))))))
  (sSeq (sAsg (.nm 11) (eCallP F_weight_of [] (aCons (eVar 0) (aCons (eVar 1) (aCons (eVar 2) aNil)))))
  (sSeq (sAsg (.nm 12) (eLst (aCons (eCallP F_drive_of [] (aCons (eVar 0) (aCons (eVar 1) (aCons (eVar 2) aNil)))) (aCons (eCallP F_middle [] (aCons (eVar 0) (aCons (eVar 1) (aCons (eVar 2) (aCons (eVar 3) aNil))))) aNil))))
  (sSeq (sIf (bOr (bNot (bTru (eCallP F_law_whole [] (aCons (eVar 11) aNil)))) (bOr (bOf (eBin kNe (eVar 11) (eB kSum (aCons (eVar 4) aNil)))) (bNot (bTru (eB kAll (aCons (eComp (iSeq (eVar 12)) (.nm 15) [15] bYes (eCallP F_law_is_share [] (aCons (eVar 15) aNil))) aNil)))))) (sRet (eC (.bl false))) sPass)
  (sSeq (sIf (bOr (bOf (eBin kNe (eBin kIx (eVar 12) (eC (.int 0))) (eVar 5))) (bOf (eBin kNe (eCallP F_law_by [] (aCons (eTup (aCons (eVar 11) (aCons (eC (.int 1)) aNil))) (aCons (eBin kIx (eVar 12) (eC (.int 1))) aNil))) (eVar 7)))) (sRet (eC (.bl false))) sPass)
  (sSeq (sAsg (.nm 13) (eCallP F_law_by [] (aCons (eTup (aCons (eVar 11) (aCons (eC (.int 1)) aNil))) (aCons (eCallP F_middle [] (aCons (eVar 0) (aCons (eVar 1) (aCons (eVar 2) (aCons (eTup (aCons (eC (.int 0)) (aCons (eC (.int 1)) aNil))) aNil))))) aNil))))
  (sRet (eAnd (eBin kEq (eVar 13) (eVar 6)) (eBin kEq (eCallP F_law_sum [] (aCons (eVar 13) (aCons (eCallP F_law_by [] (aCons (eVar 5) (aCons (eVar 3) aNil))) aNil))) (eVar 7))))))))))))
def F_law_stretch_right : FI := toF 16 S_law_stretch_right
abbrev S_law_with_row : SI :=
  (sSeq (sIf (bOf (eBin kLt (eVar 0) (eC (.int 2)))) (sRet (eIf (bOf (eBin kEq (eVar 0) (eC (.int 0)))) (eCallP F_weight_of [] (aCons (eVar 1) (aCons (eC (.int 1)) (aCons (eC (.int 0)) aNil)))) (eCallP F_drive_of [] (aCons (eVar 1) (aCons (eC .non) (aCons (eC (.int 0)) aNil)))))) sPass)
  (sRet (eIf (bOf (eBin kEq (eVar 0) (eC (.int 2)))) (eCallP F_straight [] (aCons (eVar 1) (aCons (eUn kNeg (eC (.int 1))) (aCons (eC .non) aNil)))) (eCallP F_middle [] (aCons (eVar 1) (aCons (eC (.int 1)) (aCons (eC (.int 0)) (aCons (eC .non) aNil))))))))
def F_law_with_row : FI := toF 2 S_law_with_row
abbrev S_law_with_bead : SI :=
  (sSeq (sAsg (.nm 2) (eLst (aCons (eTup (aCons (eC (.int 1)) (aCons (eTup (aCons (eC (.int 0)) (aCons (eC (.int 1)) aNil))) (aCons (eTup (aCons (eC (.int 1)) (aCons (eC (.int 1)) aNil))) aNil)))) (aCons (eTup (aCons (eC (.int 2)) (aCons (eTup (aCons (eC (.int 1)) (aCons (eC (.int 2)) aNil))) (aCons (eTup (aCons (eC (.int 0)) (aCons (eC (.int 1)) aNil))) aNil)))) (aCons (eTup (aCons (eC (.int 3)) (aCons (eTup (aCons (eC (.int 2)) (aCons (eC (.int 1)) aNil))) (aCons (eTup (aCons (eUn kNeg (eC (.int 1))) (aCons (eC (.int 1)) aNil))) aNil)))) aNil)))))
  (sSeq (sIf (bOf (eBin kLt (eVar 0) (eC (.int 4)))) (sSeq (sAsg (.nm 3) (eIf (bOf (eBin kEq (eBin kMod (eVar 0) (eC (.int 2))) (eC (.int 0)))) (eTup (aCons (eVar 1) (aCons (eC (.int 2)) aNil))) (eTup (aCons (eC (.int 0)) (aCons (eVar 1) aNil)))))
  (sRet (eIf (bOf (eBin kLt (eVar 0) (eC (.int 2)))) (eCallP F_weight_of [] (aCons (eVar 2) (aCons (eBin kIx (eVar 3) (eC (.int 0))) (aCons (eBin kIx (eVar 3) (eC (.int 1))) aNil)))) (eCallP F_drive_of [] (aCons (eVar 2) (aCons (eBin kIx (eVar 3) (eC (.int 0))) (aCons (eBin kIx (eVar 3) (eC (.int 1))) aNil))))))) sPass)
  (sSeq (sIf (bOf (eBin kEq (eVar 0) (eC (.int 4)))) (sRet (eCallP F_straight [] (aCons (eVar 2) (aCons (eVar 1) (aCons (eC .non) aNil))))) sPass)
  (sRet (eIf (bOf (eBin kEq (eVar 0) (eC (.int 5)))) (eCallP F_middle [] (aCons (eVar 2) (aCons (eVar 1) (aCons (eC (.int 2)) (aCons (eC .non) aNil))))) (eCallP F_middle [] (aCons (eVar 2) (aCons (eC (.int 0)) (aCons (eVar 1) (aCons (eC .non) aNil))))))))))
def F_law_with_bead : FI := toF 4 S_law_with_bead
abbrev S_law_with_moment : SI :=
  (sSeq (sAsg (.nm 2) (eLst (aCons (eTup (aCons (eC (.int 1)) (aCons (eTup (aCons (eC (.int 0)) (aCons (eC (.int 1)) aNil))) (aCons (eTup (aCons (eC (.int 1)) (aCons (eC (.int 1)) aNil))) aNil)))) (aCons (eTup (aCons (eC (.int 2)) (aCons (eTup (aCons (eC (.int 1)) (aCons (eC (.int 2)) aNil))) (aCons (eTup (aCons (eC (.int 0)) (aCons (eC (.int 1)) aNil))) aNil)))) aNil))))
  (sRet (eIf (bOf (eBin kEq (eVar 0) (eC (.int 0)))) (eCallP F_straight [] (aCons (eVar 2) (aCons (eC (.int 1)) (aCons (eVar 1) aNil)))) (eCallP F_middle [] (aCons (eVar 2) (aCons (eC (.int 0)) (aCons (eC (.int 1)) (aCons (eVar 1) aNil))))))))
def F_law_with_moment : FI := toF 3 S_law_with_moment
abbrev S_law_no_rows : SI :=
  (sSeq (sPar2 1 2 (aCons (eTup (aCons (eC (.int 1)) (aCons (eTup (aCons (eC (.int 0)) (aCons (eC (.int 1)) aNil))) (aCons (eTup (aCons (eC (.int 1)) (aCons (eC (.int 1)) aNil))) aNil)))) (aCons (eCompN (iRange1 (eC (.int 9))) (.nm 4) [4] bYes (eTup (aCons (eBin kAdd (eC (.int 1)) (eVar 4)) (aCons (eTup (aCons (eVar 4) (aCons (eC (.int 1)) aNil))) (aCons (eTup (aCons (eC (.int 0)) (aCons (eC (.int 1)) aNil))) aNil))))) aNil)))
  (sSeq (sAsg (.nm 3) (eLst (aCons (eC .non) (aCons (eC (.int 5)) (aCons (eTup (aCons (eC (.int 1)) (aCons (eTup (aCons (eC (.int 0)) (aCons (eC (.int 1)) aNil))) aNil))) (aCons (eLst (aCons (eC (.int 1)) (aCons (eTup (aCons (eC (.int 0)) (aCons (eC (.int 1)) aNil))) (aCons (eTup (aCons (eC (.int 1)) (aCons (eC (.int 1)) aNil))) aNil)))) (aCons (eTup (aCons (eC (.int 0)) (aCons (eTup (aCons (eC (.int 0)) (aCons (eC (.int 1)) aNil))) (aCons (eTup (aCons (eC (.int 1)) (aCons (eC (.int 1)) aNil))) aNil)))) (aCons (eTup (aCons (eBin kAdd (eC (.int 61)) (eVar 0)) (aCons (eTup (aCons (eC (.int 0)) (aCons (eC (.int 1)) aNil))) (aCons (eTup (aCons (eC (.int 1)) (aCons (eC (.int 1)) aNil))) aNil)))) aNil))))))))
  (sSeq (sAsg (.nm 3) (eBin kAdd (eVar 3) (eLst (aCons (eTup (aCons (eC (.bl true)) (aCons (eTup (aCons (eC (.int 0)) (aCons (eC (.int 1)) aNil))) (aCons (eTup (aCons (eC (.int 1)) (aCons (eC (.int 1)) aNil))) aNil)))) (aCons (eTup (aCons (eC (.int 1)) (aCons (eTup (aCons (eC (.int 2)) (aCons (eC (.int 4)) aNil))) (aCons (eTup (aCons (eC (.int 1)) (aCons (eC (.int 1)) aNil))) aNil)))) (aCons (eTup (aCons (eC (.int 1)) (aCons (eTup (aCons (eC (.int 0)) (aCons (eC (.int 1)) aNil))) (aCons (eTup (aCons (eC (.int 1)) (aCons (eC (.int 0)) aNil))) aNil)))) (aCons (eTup (aCons (eC (.int 1)) (aCons (eTup (aCons (eC (.int 1)) (aCons (eC (.int 61)) aNil))) (aCons (eTup (aCons (eC (.int 1)) (aCons (eC (.int 1)) aNil))) aNil)))) aNil)))))))
  (sSeq (sAsg (.nm 4) (eBin kMod (eVar 0) (eC (.int 9))))
  (sSeq (sAsg (.nm 5) (eLst (aCons (eC .non) (aCons (eTup aNil) (aCons (eTup (aCons (eVar 1) aNil)) (aCons (eC (.str "row")) (aCons eDct (aCons (eC (.int 5)) (aCons (eLst aNil) (aCons (eComp (iRange1 (eC (.int 11))) (.nm 4) [4] bYes (eTup (aCons (eC (.int 1)) (aCons (eTup (aCons (eVar 4) (aCons (eC (.int 1)) aNil))) (aCons (eTup (aCons (eC (.int 0)) (aCons (eC (.int 1)) aNil))) aNil))))) (aCons (eLst (aCons (eVar 1) (aCons (eVar 1) aNil))) (aCons (eRev (eVar 2)) aNil))))))))))))
  (sSeq (sSetI (eVar 2) (eVar 4) (eBin kIx (eVar 3) (eBin kMod (eBin kDiv (eVar 0) (eC (.int 9))) (eB kLen (aCons (eVar 3) aNil)))))
  (sRet (eBin kAdd (eBin kAdd (eVar 5) (eLst (aCons (eVar 2) aNil))) (eComp (iSeq (eVar 3)) (.nm 6) [6] bYes (eLst (aCons (eVar 6) aNil)))))))))))
def F_law_no_rows : FI := toF 7 S_law_no_rows
abbrev S_law_no_beads : SI :=
  (sRet (eLst (aCons (eC .non) (aCons (eUn kNeg (eC (.int 1))) (aCons (eC (.int 3)) (aCons (eBin kAdd (eC (.int 3)) (eVar 0)) (aCons (eBin kSub (eUn kNeg (eC (.int 1))) (eVar 0)) (aCons (eC (.bl true)) (aCons (eC (.bl false)) (aCons (eC (.str "1")) (aCons (eTup (aCons (eC (.int 1)) aNil)) (aCons (eLst (aCons (eC (.int 1)) aNil)) (aCons eDct aNil)))))))))))))
def F_law_no_beads : FI := toF 1 S_law_no_beads
abbrev S_law_no_moments : SI :=
  (sSeq (sAsg (.nm 1) (eLst (aCons (eC .non) (aCons (eC (.int 3)) (aCons (eC (.bl true)) (aCons (eC (.str "1/2")) (aCons (eLst (aCons (eC (.int 1)) (aCons (eC (.int 2)) aNil))) (aCons (eTup (aCons (eC (.int 1)) aNil)) (aCons (eTup (aCons (eC (.int 1)) (aCons (eC (.int 2)) (aCons (eC (.int 3)) aNil)))) (aCons eDct (aCons (eTup (aCons (eC .non) (aCons (eC (.int 1)) aNil))) (aCons (eTup (aCons (eC (.int 1)) (aCons (eC .non) aNil))) (aCons (eTup (aCons (eC (.bl true)) (aCons (eC (.int 2)) aNil))) (aCons (eTup (aCons (eC (.int 1)) (aCons (eC (.bl true)) aNil))) (aCons (eTup (aCons (eC (.int 2)) (aCons (eC (.int 4)) aNil))) aNil)))))))))))))))
  (sRet (eBin kAdd (eVar 1) (eLst (aCons (eTup (aCons (eC (.int 0)) (aCons (eC (.int 2)) aNil))) (aCons (eTup (aCons (eC (.int 1)) (aCons (eC (.int 0)) aNil))) (aCons (eTup (aCons (eC (.int 1)) (aCons (eUn kNeg (eC (.int 2))) aNil))) (aCons (eTup (aCons (eUn kNeg (eC (.int 1))) (aCons (eC (.int 1)) aNil))) (aCons (eTup (aCons (eBin kSub (eUn kNeg (eC (.int 1))) (eVar 0)) (aCons (eC (.int 1)) aNil))) (aCons (eTup (aCons (eBin kAdd (eBin kMul (eC (.int 2)) (eVar 0)) (eC (.int 2))) (aCons (eBin kAdd (eBin kMul (eC (.int 4)) (eVar 0)) (eC (.int 4))) aNil))) (aCons (eTup (aCons (eUn kNeg (eC (.int 1))) (aCons (eBin kAdd (eC (.int 3)) (eVar 0)) aNil))) aNil)))))))))))
def F_law_no_moments : FI := toF 2 S_law_no_moments
abbrev S_check_weight : SI :=
  (sIf (bOr (bNot (bTru (eCallP F_is_number [] (aCons (eVar 0) aNil)))) (bNot (bOf (eChain kLe kLe (eC (.int 1)) (eVar 0) (eC (.int 60)))))) (sRaise "BadWeight") sPass)
def F_check_weight : FI := toF 1 S_check_weight
abbrev S_turned_over : SI :=
  (sSeq (sAsg (.nm 4) (eCallP F_added [] (aCons (eCallP F_product [] (aCons (eTup (aCons (eVar 0) (aCons (eC (.int 1)) aNil))) (aCons (eVar 2) aNil))) (aCons (eCallP F_product [] (aCons (eTup (aCons (eVar 1) (aCons (eC (.int 1)) aNil))) (aCons (eVar 3) aNil))) aNil))))
  (sSeq (sAsg (.nm 5) (eCallP F_lowest [] (aCons (eBin kMul (eC (.int 2)) (eBin kIx (eVar 4) (eC (.int 0)))) (aCons (eBin kMul (eBin kIx (eVar 4) (eC (.int 1))) (eBin kAdd (eVar 0) (eVar 1))) aNil))))
  (sRet (eTup (aCons (eCallP F_less [] (aCons (eVar 5) (aCons (eVar 2) aNil))) (aCons (eCallP F_less [] (aCons (eVar 5) (aCons (eVar 3) aNil))) aNil))))))
def F_turned_over : FI := toF 6 S_turned_over
abbrev S_bounced : SI :=
  (sSeq (sExpr (eCallP F_check_weight [] (aCons (eVar 0) aNil)))
  (sSeq (sExpr (eCallP F_check_weight [] (aCons (eVar 1) aNil)))
  (sSeq (sExpr (eCallP F_check_share [] (aCons (eVar 2) aNil)))
  (sSeq (sExpr (eCallP F_check_share [] (aCons (eVar 3) aNil)))
  (sRet (eCallP F_turned_over [] (aCons (eVar 0) (aCons (eVar 1) (aCons (eVar 2) (aCons (eVar 3) aNil))))))))))
def F_bounced : FI := toF 4 S_bounced
abbrev S_law_less : SI :=
  (sRet (eCallP F_law_sum [] (aCons (eVar 0) (aCons (eTup (aCons (eUn kNeg (eBin kIx (eVar 1) (eC (.int 0)))) (aCons (eBin kIx (eVar 1) (eC (.int 1))) aNil))) aNil))))
def F_law_less : FI := toF 2 S_law_less
abbrev S_law_drive : SI :=
  (sSeq (sIf (bTru (eVar 4)) (sPar2 2 3 (aCons (eCallP F_law_by [] (aCons (eVar 2) (aCons (eVar 2) aNil))) (aCons (eCallP F_law_by [] (aCons (eVar 3) (aCons (eVar 3) aNil))) aNil))) sPass)
  (sRet (eCallP F_law_sum [] (aCons (eCallP F_law_by [] (aCons (eTup (aCons (eVar 0) (aCons (eC (.int 1)) aNil))) (aCons (eVar 2) aNil))) (aCons (eCallP F_law_by [] (aCons (eTup (aCons (eVar 1) (aCons (eC (.int 1)) aNil))) (aCons (eVar 3) aNil))) aNil)))))
def F_law_drive : FI := toF 5 S_law_drive
abbrev S_law_right : SI :=
  (sSeq (sAsg (.nm 4) (eCallP F_bounced [] (aCons (eVar 0) (aCons (eVar 1) (aCons (eVar 2) (aCons (eVar 3) aNil))))))
  (sSeq (sIf (bOr (bNot (bTru (eB kIsi (aCons (eVar 4) (aCons (eC (.ty .tuple)) aNil))))) (bOr (bOf (eBin kNe (eB kLen (aCons (eVar 4) aNil)) (eC (.int 2)))) (bOr (bNot (bTru (eCallP F_law_is_share [] (aCons (eBin kIx (eVar 4) (eC (.int 0))) aNil)))) (bNot (bTru (eCallP F_law_is_share [] (aCons (eBin kIx (eVar 4) (eC (.int 1))) aNil))))))) (sRet (eC (.bl false))) sPass)
  (sSeq (sFor (iSeq (eLst (aCons (eC (.bl false)) (aCons (eC (.bl true)) aNil)))) (.nm 5) (sIf (bOf (eBin kNe (eCallP F_law_drive [] (aCons (eVar 0) (aCons (eVar 1) (aCons (eBin kIx (eVar 4) (eC (.int 0))) (aCons (eBin kIx (eVar 4) (eC (.int 1))) (aCons (eVar 5) aNil)))))) (eCallP F_law_drive [] (aCons (eVar 0) (aCons (eVar 1) (aCons (eVar 2) (aCons (eVar 3) (aCons (eVar 5) aNil)))))))) (sRet (eC (.bl false))) sPass))
  (sSeq (sIf (bOr (bOf (eBin kNe (eCallP F_law_less [] (aCons (eBin kIx (eVar 4) (eC (.int 1))) (aCons (eBin kIx (eVar 4) (eC (.int 0))) aNil))) (eCallP F_law_less [] (aCons (eVar 2) (aCons (eVar 3) aNil))))) (bOf (eBin kNe (eCallP F_bounced [] (aCons (eVar 0) (aCons (eVar 1) (aCons (eBin kIx (eVar 4) (eC (.int 0))) (aCons (eBin kIx (eVar 4) (eC (.int 1))) aNil))))) (eTup (aCons (eVar 2) (aCons (eVar 3) aNil)))))) (sRet (eC (.bl false))) sPass)
  (sSeq (sIf (bAnd (bOf (eBin kEq (eVar 0) (eVar 1))) (bOf (eBin kNe (eVar 4) (eTup (aCons (eVar 3) (aCons (eVar 2) aNil)))))) (sRet (eC (.bl false))) sPass)
  (sRet (eBin kEq (eCallP F_bounced [] (aCons (eVar 1) (aCons (eVar 0) (aCons (eVar 3) (aCons (eVar 2) aNil))))) (eTup (aCons (eBin kIx (eVar 4) (eC (.int 1))) (aCons (eBin kIx (eVar 4) (eC (.int 0))) aNil))))))))))
def F_law_right : FI := toF 6 S_law_right
abbrev S_together_of : SI :=
  (sSeq (sAsg (.nm 2) (eTup (aCons (eC (.int 0)) (aCons (eC (.int 1)) aNil))))
  (sSeq (sFor (iZip' (eVar 0) (eVar 1)) (.tp [(.nm 3), (.nm 4)]) (sAsg (.nm 2) (eCallP F_added [] (aCons (eVar 2) (aCons (eCallP F_product [] (aCons (eTup (aCons (eVar 3) (aCons (eC (.int 1)) aNil))) (aCons (eVar 4) aNil))) aNil)))))
  (sRet (eCallP F_quotient [] (aCons (eVar 2) (aCons (eTup (aCons (eB kSum (aCons (eVar 0) aNil)) (aCons (eC (.int 1)) aNil))) aNil))))))
def F_together_of : FI := toF 5 S_together_of
abbrev S_stuck : SI :=
  (sSeq (sIf (bOr (bNot (bTru (eB kIsi (aCons (eVar 0) (aCons (eC (.ty .list)) aNil))))) (bOf (eBin (kEmp true) (eVar 0) (eLst aNil)))) (sRaise "BadWeight") sPass)
  (sSeq (sFor (iSeq (eVar 0)) (.nm 2) (sExpr (eCallP F_check_weight [] (aCons (eVar 2) aNil))))
  (sSeq (sIf (bOr (bNot (bTru (eB kIsi (aCons (eVar 1) (aCons (eC (.ty .list)) aNil))))) (bOf (eBin kNe (eB kLen (aCons (eVar 1) aNil)) (eB kLen (aCons (eVar 0) aNil))))) (sRaise "BadWeight") sPass)
  (sSeq (sFor (iSeq (eVar 1)) (.nm 3) (sExpr (eCallP F_check_share [] (aCons (eVar 3) aNil))))
  (sRet (eCallP F_together_of [] (aCons (eVar 0) (aCons (eVar 1) aNil))))))))
def F_stuck : FI := toF 4 S_stuck
abbrev S_law_with_weight : SI :=
  (sSeq (sIf (bOf (eBin kLt (eVar 0) (eC (.int 2)))) (sRet (eIf (bOf (eBin kEq (eVar 0) (eC (.int 0)))) (eCallP F_bounced [] (aCons (eVar 1) (aCons (eC (.int 1)) (aCons (eC .non) (aCons (eTup (aCons (eC (.int 1)) (aCons (eC (.int 2)) aNil))) aNil))))) (eCallP F_bounced [] (aCons (eC (.int 1)) (aCons (eVar 1) (aCons (eTup (aCons (eC (.int 1)) (aCons (eC (.int 2)) aNil))) (aCons (eC (.int 5)) aNil))))))) sPass)
  (sRet (eIf (bOf (eBin kEq (eVar 0) (eC (.int 2)))) (eCallP F_stuck [] (aCons (eLst (aCons (eVar 1) aNil)) (aCons (eC .non) aNil))) (eCallP F_stuck [] (aCons (eLst (aCons (eC (.int 1)) (aCons (eVar 1) (aCons (eC (.int 2)) aNil)))) (aCons (eLst (aCons (eTup (aCons (eC (.int 0)) (aCons (eC (.int 1)) aNil))) (aCons (eC (.int 5)) (aCons (eTup (aCons (eC (.int 1)) (aCons (eC (.int 1)) aNil))) aNil)))) aNil))))))
def F_law_with_weight : FI := toF 2 S_law_with_weight
abbrev S_law_with_list : SI :=
  (sRet (eCallP F_stuck [] (aCons (eVar 1) (aCons (eC .non) aNil))))
def F_law_with_list : FI := toF 2 S_law_with_list
abbrev S_law_with_speeds : SI :=
  (sRet (eCallP F_stuck [] (aCons (eLst (aCons (eC (.int 1)) (aCons (eC (.int 2)) (aCons (eC (.int 3)) aNil)))) (aCons (eVar 1) aNil))))
def F_law_with_speeds : FI := toF 2 S_law_with_speeds
abbrev S_law_no_weights : SI :=
  (sRet (eLst (aCons (eC .non) (aCons (eC (.int 0)) (aCons (eUn kNeg (eC (.int 1))) (aCons (eBin kSub (eUn kNeg (eC (.int 1))) (eVar 0)) (aCons (eC (.int 61)) (aCons (eBin kAdd (eC (.int 61)) (eVar 0)) (aCons (eC (.bl true)) (aCons (eC (.bl false)) (aCons (eC (.str "4")) (aCons (eLst (aCons (eC (.int 4)) aNil)) (aCons (eTup (aCons (eC (.int 4)) aNil)) (aCons eDct aNil))))))))))))))
def F_law_no_weights : FI := toF 1 S_law_no_weights
abbrev S_law_no_lists : SI :=
  (sSeq (sAsg (.nm 1) (eCallP F_law_no_weights [] (aCons (eVar 0) aNil)))
  (sSeq (sAsg (.nm 2) (eLstN (aCons (eC (.int 1)) (aCons (eC (.int 2)) (aCons (eC (.int 3)) (aCons (eC (.int 60)) (aCons (eC (.int 5)) (aCons (eC (.int 6)) (aCons (eC (.int 7)) (aCons (eC (.int 8)) (aCons (eC (.int 9)) aNil)))))))))))
  (sSeq (sSetI (eVar 2) (eBin kMod (eVar 0) (eC (.int 9))) (eBin kIx (eVar 1) (eBin kMod (eBin kDiv (eVar 0) (eC (.int 9))) (eB kLen (aCons (eVar 1) aNil)))))
  (sRet (eLst (aCons (eC .non) (aCons (eTup aNil) (aCons (eTup (aCons (eC (.int 1)) aNil)) (aCons (eC (.str "1")) (aCons eDct (aCons (eC (.int 5)) (aCons (eLst aNil) (aCons (eVar 2) aNil)))))))))))))
def F_law_no_lists : FI := toF 3 S_law_no_lists
abbrev S_law_no_speeds : SI :=
  (sSeq (sAsg (.nm 1) (eLst (aCons (eC .non) (aCons (eTup aNil) (aCons (eTup (aCons (eTup (aCons (eC (.int 0)) (aCons (eC (.int 1)) aNil))) (aCons (eTup (aCons (eC (.int 0)) (aCons (eC (.int 1)) aNil))) (aCons (eTup (aCons (eC (.int 0)) (aCons (eC (.int 1)) aNil))) aNil)))) (aCons (eC (.str "abc")) (aCons eDct (aCons (eC (.int 5)) (aCons (eLst aNil) (aCons (eLst (aCons (eTup (aCons (eC (.int 0)) (aCons (eC (.int 1)) aNil))) aNil)) (aCons (eLst (aCons (eTup (aCons (eC (.int 0)) (aCons (eC (.int 1)) aNil))) (aCons (eTup (aCons (eC (.int 0)) (aCons (eC (.int 1)) aNil))) aNil))) aNil)))))))))))
  (sRet (eBin kAdd (eVar 1) (eLst (aCons (eBin kRep (eLst (aCons (eTup (aCons (eC (.int 0)) (aCons (eC (.int 1)) aNil))) aNil)) (eC (.int 4))) (aCons (eBin kRep (eLst (aCons (eTup (aCons (eC (.int 0)) (aCons (eC (.int 1)) aNil))) aNil)) (eBin kAdd (eC (.int 4)) (eBin kMod (eVar 0) (eC (.int 50))))) aNil))))))
def F_law_no_speeds : FI := toF 2 S_law_no_speeds
abbrev S_crossing : SI :=
  (sSeq (sIf (bOf (eBin kLe (eCallP F_sign [] (aCons (eBin kIx (eVar 0) (eC (.int 1))) (aCons (eBin kIx (eVar 1) (eC (.int 1))) aNil))) (eC (.int 0)))) (sRet (eC .non)) sPass)
  (sRet (eCallP F_quotient [] (aCons (eCallP F_less [] (aCons (eBin kIx (eVar 1) (eC (.int 0))) (aCons (eBin kIx (eVar 0) (eC (.int 0))) aNil))) (aCons (eCallP F_less [] (aCons (eBin kIx (eVar 0) (eC (.int 1))) (aCons (eBin kIx (eVar 1) (eC (.int 1))) aNil))) aNil)))))
def F_crossing : FI := toF 2 S_crossing
abbrev S_Meet___init__ : SI :=
  (sSetF [("Meet", ["moment"])] "moment" (eVar 0) (eVar 1))
def F_Meet___init__ : FI := toF 2 S_Meet___init__
abbrev S_Meet_shows : SI :=
  (sRet (eBin kEq (eCallP F_crossing [] (aCons (eSl (eBin kIx (eVar 1) (eVar 2)) (pSome (eC (.int 1))) pNone) (aCons (eSl (eBin kIx (eVar 1) (eBin kAdd (eVar 2) (eC (.int 1)))) (pSome (eC (.int 1))) pNone) aNil))) (eFld [("Meet", ["moment"])] "moment" (eVar 0))))
def F_Meet_shows : FI := toF 3 S_Meet_shows
abbrev S_Never_shows : SI :=
  (sRet (eBin kIs (eCallP F_crossing [] (aCons (eSl (eBin kIx (eVar 1) (eVar 2)) (pSome (eC (.int 1))) pNone) (aCons (eSl (eBin kIx (eVar 1) (eBin kAdd (eVar 2) (eC (.int 1)))) (pSome (eC (.int 1))) pNone) aNil))) (eC .non)))
def F_Never_shows : FI := toF 3 S_Never_shows
abbrev S_One___init__ : SI :=
  (sSeq (sSetF [("One", ["first"])] "first" (eVar 0) (eVar 1))
  (sSetF [("One", ["last"])] "last" (eVar 0) (eVar 2)))
def F_One___init__ : FI := toF 3 S_One___init__
abbrev S_Parted___init__ : SI :=
  (sSetF [("Parted", ["cut"])] "cut" (eVar 0) (eVar 1))
def F_Parted___init__ : FI := toF 2 S_Parted___init__
abbrev S_Wrong___init__ : SI :=
  (sSetF [("Wrong", ["count"])] "count" (eVar 0) (eVar 1))
def F_Wrong___init__ : FI := toF 2 S_Wrong___init__
abbrev S_pair_meets : SI :=
  (sSeq (sExpr (eCallP F_check_row [] (aCons (eVar 0) aNil)))
  (sSeq (sExpr (eCallP F_check_bead [] (aCons (eVar 0) (aCons (eVar 1) aNil))))
  (sSeq (sIf (bOf (eBin kEq (eBin kAdd (eVar 1) (eC (.int 1))) (eB kLen (aCons (eVar 0) aNil)))) (sRaise "BadBead") sPass)
  (sSeq (sAsg (.nm 2) (eCallP F_crossing [] (aCons (eSl (eBin kIx (eVar 0) (eVar 1)) (pSome (eC (.int 1))) pNone) (aCons (eSl (eBin kIx (eVar 0) (eBin kAdd (eVar 1) (eC (.int 1)))) (pSome (eC (.int 1))) pNone) aNil))))
  (sRet (eIf (bOf (eBin kIs (eVar 2) (eC .non))) (eBare "Never") (eMakeF "Meet" F_Meet___init__ (aCons (eVar 2) aNil))))))))
def F_pair_meets : FI := toF 3 S_pair_meets
abbrev S_law_due : SI :=
  (sSeq (sPar2 3 4 (aCons (eSl (eBin kIx (eVar 0) (eVar 1)) (pSome (eC (.int 1))) pNone) (aCons (eSl (eBin kIx (eVar 0) (eBin kAdd (eVar 1) (eC (.int 1)))) (pSome (eC (.int 1))) pNone) aNil)))
  (sSeq (sIf (bTru (eB (kIsI ["Meet", "Never"] ["Answer", "Meet", "Never", "One", "Parted", "Right", "Wrong"]) (aCons (eVar 2) (aCons (eC (.gl "Never")) aNil)))) (sRet (eBin kLe (eCallP F_law_far [] (aCons (eBin kIx (eVar 3) (eC (.int 1))) (aCons (eBin kIx (eVar 4) (eC (.int 1))) aNil))) (eC (.int 0)))) sPass)
  (sSeq (sIf (bOr (bOf (eBin kLe (eCallP F_law_far [] (aCons (eBin kIx (eVar 3) (eC (.int 1))) (aCons (eBin kIx (eVar 4) (eC (.int 1))) aNil))) (eC (.int 0)))) (bNot (bTru (eCallP F_law_is_share [] (aCons (eFld [("Meet", ["moment"])] "moment" (eVar 2)) aNil))))) (sRet (eC (.bl false))) sPass)
  (sRet (eBin kEq (eCallP F_law_there [] (aCons (eVar 3) (aCons (eFld [("Meet", ["moment"])] "moment" (eVar 2)) aNil))) (eCallP F_law_there [] (aCons (eVar 4) (aCons (eFld [("Meet", ["moment"])] "moment" (eVar 2)) aNil))))))))
def F_law_due : FI := toF 5 S_law_due
abbrev S_first_lines : SI :=
  (sRet (eComp (iEnum' (eVar 0)) (.tp [(.nm 1), (.nm 2)]) [1, 2] bYes (eTup (aCons (eVar 1) (aCons (eVar 1) (aCons (eBin kIx (eVar 2) (eC (.int 1))) (aCons (eBin kIx (eVar 2) (eC (.int 2))) aNil)))))))
def F_first_lines : FI := toF 3 S_first_lines
abbrev S_wait_of : SI :=
  (sSeq (sIf (bOf (eBin kLe (eCallP F_sign [] (aCons (eBin kIx (eVar 0) (eC (.int 3))) (aCons (eBin kIx (eVar 1) (eC (.int 3))) aNil))) (eC (.int 0)))) (sRet (eC .non)) sPass)
  (sRet (eCallP F_quotient [] (aCons (eCallP F_less [] (aCons (eBin kIx (eVar 1) (eC (.int 2))) (aCons (eBin kIx (eVar 0) (eC (.int 2))) aNil))) (aCons (eCallP F_less [] (aCons (eBin kIx (eVar 0) (eC (.int 3))) (aCons (eBin kIx (eVar 1) (eC (.int 3))) aNil))) aNil)))))
def F_wait_of : FI := toF 2 S_wait_of
abbrev S_first_moment : SI :=
  (sSeq (sAsg (.nm 1) (eC .non))
  (sSeq (sFor (iZip' (eVar 0) (eSl (eVar 0) (pSome (eC (.int 1))) pNone)) (.tp [(.nm 2), (.nm 3)]) (sSeq (sAsg (.nm 4) (eCallP F_wait_of [] (aCons (eVar 2) (aCons (eVar 3) aNil))))
  (sIf (bAnd (bOf (eBin kIsNot (eVar 4) (eC .non))) (bOr (bOf (eBin kIs (eVar 1) (eC .non))) (bOf (eBin kLt (eCallP F_sign [] (aCons (eVar 4) (aCons (eVar 1) aNil))) (eC (.int 0)))))) (sAsg (.nm 1) (eVar 4)) sPass)))
  (sRet (eVar 1))))
def F_first_moment : FI := toF 5 S_first_moment
abbrev S_piles : SI :=
  (sSeq (sAsg (.nm 2) (eComp (iSeq (eVar 0)) (.nm 6) [6] bYes (eCallP F_at_moment [] (aCons (eSl (eVar 6) (pSome (eC (.int 2))) pNone) (aCons (eVar 1) aNil)))))
  (sSeq (sAsg (.nm 3) (eLstN aNil))
  (sSeq (sFor (iEnum' (eVar 2)) (.tp [(.nm 4), (.nm 5)]) (sIf (bAnd (bOf (eBin kGt (eVar 4) (eC (.int 0)))) (bOf (eBin kEq (eBin kIx (eVar 2) (eBin kSub (eVar 4) (eC (.int 1)))) (eVar 5)))) (sSetI (eVar 3) (eUn kNeg (eC (.int 1))) (eTup (aCons (eBin kIx (eBin kIx (eVar 3) (eUn kNeg (eC (.int 1)))) (eC (.int 0))) (aCons (eVar 4) aNil)))) (sExpr (eM mApp (eVar 3) (aCons (eTup (aCons (eVar 4) (aCons (eVar 4) aNil))) aNil)))))
  (sRet (eVar 3)))))
def F_piles : FI := toF 7 S_piles
abbrev S_first_meet : SI :=
  (sSeq (sExpr (eCallP F_check_row [] (aCons (eVar 0) aNil)))
  (sSeq (sAsg (.nm 1) (eCallP F_first_lines [] (aCons (eVar 0) aNil)))
  (sSeq (sAsg (.nm 2) (eCallP F_first_moment [] (aCons (eVar 1) aNil)))
  (sSeq (sIf (bOf (eBin kIs (eVar 2) (eC .non))) (sRet (eC .non)) sPass)
  (sRet (eTup (aCons (eVar 2) (aCons (eComp (iSeq (eCallP F_piles [] (aCons (eVar 1) (aCons (eVar 2) aNil)))) (.nm 3) [3] (bOf (eBin kLt (eBin kIx (eVar 3) (eC (.int 0))) (eBin kIx (eVar 3) (eC (.int 1))))) (eVar 3)) aNil))))))))
def F_first_meet : FI := toF 4 S_first_meet
abbrev S_check_kind : SI :=
  (sIf (bAnd (bOf (eBin kNe (eVar 0) (eC (.str "stick")))) (bOf (eBin kNe (eVar 0) (eC (.str "bounce"))))) (sRaise "BadKind") sPass)
def F_check_kind : FI := toF 1 S_check_kind
abbrev S_stuck_lines : SI :=
  (sSeq (sAsg (.nm 2) (eComp (iSeq (eVar 1)) (.nm 4) [4] bYes (eB kSum (aCons (eSl (eVar 0) (pSome (eBin kIx (eVar 4) (eC (.int 0)))) (pSome (eBin kAdd (eBin kIx (eVar 4) (eC (.int 1))) (eC (.int 1))))) aNil))))
  (sSeq (sAsg (.nm 3) (eCallP F_together_of [] (aCons (eVar 2) (aCons (eComp (iSeq (eVar 1)) (.nm 4) [4] bYes (eBin kIx (eVar 4) (eC (.int 2)))) aNil))))
  (sRet (eLst (aCons (eTup (aCons (eBin kIx (eBin kIx (eVar 1) (eC (.int 0))) (eC (.int 0))) (aCons (eBin kIx (eBin kIx (eVar 1) (eUn kNeg (eC (.int 1)))) (eC (.int 1))) (aCons (eVar 3) (aCons (eCallP F_together_of [] (aCons (eVar 2) (aCons (eComp (iSeq (eVar 1)) (.nm 4) [4] bYes (eBin kIx (eVar 4) (eC (.int 3)))) aNil))) aNil))))) aNil)))))
def F_stuck_lines : FI := toF 5 S_stuck_lines
abbrev S_bounced_lines : SI :=
  (sSeq (sAsg (.nm 2) (eComp (iSeq (eVar 1)) (.nm 8) [8] bYes (eBin kIx (eVar 0) (eBin kIx (eVar 8) (eC (.int 0))))))
  (sSeq (sIf (bAnd (bOf (eBin kGt (eB kLen (aCons (eVar 1) aNil)) (eC (.int 2)))) (bOf (eBin kNe (eVar 2) (eBin kRep (eLst (aCons (eBin kIx (eVar 2) (eC (.int 0))) aNil)) (eB kLen (aCons (eVar 2) aNil)))))) (sRaise "Crowded") sPass)
  (sSeq (sIf (bOf (eBin kGt (eB kLen (aCons (eVar 1) aNil)) (eC (.int 2)))) (sSeq (sAsg (.nm 3) (eRev (eVar 1)))
  (sRet (eComp (iZip' (eVar 1) (eVar 3)) (.tp [(.nm 8), (.nm 9)]) [8, 9] bYes (eTup (aCons (eBin kIx (eVar 8) (eC (.int 0))) (aCons (eBin kIx (eVar 8) (eC (.int 1))) (aCons (eBin kIx (eVar 9) (eC (.int 2))) (aCons (eBin kIx (eVar 9) (eC (.int 3))) aNil)))))))) sPass)
  (sSeq (sAsg (.tp [(.nm 4), (.nm 5)]) (eVar 1))
  (sSeq (sAsg (.nm 6) (eCallP F_turned_over [] (aCons (eBin kIx (eVar 2) (eC (.int 0))) (aCons (eBin kIx (eVar 2) (eC (.int 1))) (aCons (eBin kIx (eVar 4) (eC (.int 2))) (aCons (eBin kIx (eVar 5) (eC (.int 2))) aNil))))))
  (sSeq (sAsg (.nm 7) (eCallP F_turned_over [] (aCons (eBin kIx (eVar 2) (eC (.int 0))) (aCons (eBin kIx (eVar 2) (eC (.int 1))) (aCons (eBin kIx (eVar 4) (eC (.int 3))) (aCons (eBin kIx (eVar 5) (eC (.int 3))) aNil))))))
  (sRet (eLst (aCons (eTup (aCons (eBin kIx (eVar 4) (eC (.int 0))) (aCons (eBin kIx (eVar 4) (eC (.int 1))) (aCons (eBin kIx (eVar 6) (eC (.int 0))) (aCons (eBin kIx (eVar 7) (eC (.int 0))) aNil))))) (aCons (eTup (aCons (eBin kIx (eVar 5) (eC (.int 0))) (aCons (eBin kIx (eVar 5) (eC (.int 1))) (aCons (eBin kIx (eVar 6) (eC (.int 1))) (aCons (eBin kIx (eVar 7) (eC (.int 1))) aNil))))) aNil))))))))))
def F_bounced_lines : FI := toF 10 S_bounced_lines
abbrev S_behind_meeting : SI :=
  (sSeq (sAsg (.nm 4) (eLstN aNil))
  (sSeq (sAsg (.nm 5) (eLstN aNil))
  (sSeq (sAsg (.nm 6) (eC (.int 0)))
  (sSeq (sFor (iSeq (eCallP F_piles [] (aCons (eVar 2) (aCons (eVar 3) aNil)))) (.tp [(.nm 7), (.nm 8)]) (sSeq (sAsg (.nm 9) (eSl (eVar 2) (pSome (eVar 7)) (pSome (eBin kAdd (eVar 8) (eC (.int 1))))))
  (sIf (bOf (eBin kEq (eB kLen (aCons (eVar 9) aNil)) (eC (.int 1)))) (sExpr (eM mExt (eVar 4) (aCons (eVar 9) aNil))) (sSeq (sExpr (eM mExt (eVar 4) (aCons (eIf (bOf (eBin kEq (eVar 1) (eC (.str "stick")))) (eCallP F_stuck_lines [] (aCons (eVar 0) (aCons (eVar 9) aNil))) (eCallP F_bounced_lines [] (aCons (eVar 0) (aCons (eVar 9) aNil)))) aNil)))
  (sSeq (sExpr (eM mApp (eVar 5) (aCons (eTup (aCons (eBin kIx (eBin kIx (eVar 9) (eC (.int 0))) (eC (.int 0))) (aCons (eBin kIx (eBin kIx (eVar 9) (eUn kNeg (eC (.int 1)))) (eC (.int 1))) aNil))) aNil)))
  (sIf (bOf (eBin kNe (eBin kIx (eVar 0) (eBin kIx (eBin kIx (eVar 9) (eC (.int 0))) (eC (.int 0)))) (eBin kIx (eVar 0) (eBin kIx (eBin kIx (eVar 9) (eUn kNeg (eC (.int 1)))) (eC (.int 1)))))) (sAug 6 (eC (.int 1))) sPass))))))
  (sRet (eTup (aCons (eVar 4) (aCons (eVar 5) (aCons (eVar 6) aNil)))))))))
def F_behind_meeting : FI := toF 10 S_behind_meeting
abbrev S_Run___init__ : SI :=
  (sSeq (sSetF [("Run", ["weights"])] "weights" (eVar 0) (eVar 1))
  (sSeq (sSetF [("Run", ["kind"])] "kind" (eVar 0) (eVar 2))
  (sSeq (sSetF [("Run", ["moment"])] "moment" (eVar 0) (eVar 3))
  (sSeq (sSetF [("Run", ["lines"])] "lines" (eVar 0) (eVar 4))
  (sSeq (sSetF [("Run", ["many"])] "many" (eVar 0) (eC (.int 0)))
  (sSetF [("Run", ["happened"])] "happened" (eVar 0) (eLstN aNil)))))))
def F_Run___init__ : FI := toF 5 S_Run___init__
abbrev S_Run_coming : SI :=
  (sRet (eCallP F_first_moment [] (aCons (eFld [("Run", ["lines"])] "lines" (eVar 0)) aNil)))
def F_Run_coming : FI := toF 1 S_Run_coming
abbrev S_Run_go_on : SI :=
  (sSeq (sAsg (.nm 1) (eCallP F_first_moment [] (aCons (eFld [("Run", ["lines"])] "lines" (eVar 0)) aNil)))
  (sSeq (sAsg (.tp [(.nm 2), (.nm 3), (.nm 4)]) (eCallP F_behind_meeting [] (aCons (eFld [("Run", ["weights"])] "weights" (eVar 0)) (aCons (eFld [("Run", ["kind"])] "kind" (eVar 0)) (aCons (eFld [("Run", ["lines"])] "lines" (eVar 0)) (aCons (eVar 1) aNil))))))
  (sSeq (sIf (bAnd (bOf (eBin kEq (eFld [("Run", ["kind"])] "kind" (eVar 0)) (eC (.str "bounce")))) (bOf (eBin kGt (eBin kAdd (eFld [("Run", ["many"])] "many" (eVar 0)) (eVar 4)) (eC (.int 12))))) (sRaise "TooMany") sPass)
  (sSeq (sSetF [("Run", ["lines"])] "lines" (eVar 0) (eVar 2))
  (sSeq (sAugF [("Run", ["many"])] "many" (eVar 0) (eVar 4))
  (sSeq (sSetF [("Run", ["moment"])] "moment" (eVar 0) (eVar 1))
  (sExpr (eM mApp (eFld [("Run", ["happened"])] "happened" (eVar 0)) (aCons (eTup (aCons (eVar 1) (aCons (eVar 3) aNil))) aNil)))))))))
def F_Run_go_on : FI := toF 5 S_Run_go_on
abbrev S_Run_go_to : SI :=
  (sSeq (sAsg (.nm 2) (eMethI "coming" [("Run", F_Run_coming)] (eVar 0) aNil))
  (sWhile (bAnd (bOf (eBin kIsNot (eVar 2) (eC .non))) (bOf (eBin kLe (eCallP F_sign [] (aCons (eVar 2) (aCons (eVar 1) aNil))) (eC (.int 0))))) (sSeq (sExpr (eMethI "go_on" [("Run", F_Run_go_on)] (eVar 0) aNil))
  (sAsg (.nm 2) (eMethI "coming" [("Run", F_Run_coming)] (eVar 0) aNil)))))
def F_Run_go_to : FI := toF 3 S_Run_go_to
abbrev S_state_of : SI :=
  (sRet (eComp (iSeq (eVar 0)) (.tp [(.nm 2), (.nm 3), (.nm 4), (.nm 5)]) [2, 3, 4, 5] bYes (eTup (aCons (eVar 2) (aCons (eVar 3) (aCons (eCallP F_at_moment [] (aCons (eTup (aCons (eVar 4) (aCons (eVar 5) aNil))) (aCons (eVar 1) aNil))) (aCons (eVar 5) aNil)))))))
def F_state_of : FI := toF 6 S_state_of
abbrev S_Story___init__ : SI :=
  (sSeq (sExpr (eCallP F_check_row [] (aCons (eVar 1) aNil)))
  (sSeq (sExpr (eCallP F_check_kind [] (aCons (eVar 2) aNil)))
  (sSeq (sSetF [("Story", ["many"])] "many" (eVar 0) (eB kLen (aCons (eVar 1) aNil)))
  (sSeq (sSetF [("Story", ["weights"])] "weights" (eVar 0) (eComp (iSeq (eVar 1)) (.nm 3) [3] bYes (eBin kIx (eVar 3) (eC (.int 0)))))
  (sSeq (sSetF [("Story", ["kind"])] "kind" (eVar 0) (eVar 2))
  (sSeq (sSetF [("Story", ["moment"])] "moment" (eVar 0) (eTup (aCons (eC (.int 0)) (aCons (eC (.int 1)) aNil))))
  (sSetF [("Story", ["changes"])] "changes" (eVar 0) (eLst (aCons (eTup (aCons (eTup (aCons (eC (.int 0)) (aCons (eC (.int 1)) aNil))) (aCons (eCallP F_first_lines [] (aCons (eVar 1) aNil)) aNil))) aNil)))))))))
def F_Story___init__ : FI := toF 4 S_Story___init__
abbrev S_Story_run_to : SI :=
  (sSeq (sAsg (.nm 2) (eLstN aNil))
  (sSeq (sAsg (.nm 3) (eC .non))
  (sSeq (sFor (iEnum' (eFld [("Story", ["changes"])] "changes" (eVar 0))) (.tp [(.nm 4), (.tp [(.nm 5), (.nm 6)])]) (sIf (bOf (eBin kLe (eCallP F_sign [] (aCons (eVar 5) (aCons (eVar 1) aNil))) (eC (.int 0)))) (sSeq (sAsg (.nm 3) (eMakeI "Run" F_Run___init__ (aCons (eFld [("Story", ["weights"])] "weights" (eVar 0)) (aCons (eFld [("Story", ["kind"])] "kind" (eVar 0)) (aCons (eVar 5) (aCons (eVar 6) aNil))))))
  (sSeq (sAsg (.nm 7) (eOr (eBin kEq (eBin kAdd (eVar 4) (eC (.int 1))) (eB kLen (aCons (eFld [("Story", ["changes"])] "changes" (eVar 0)) aNil))) (eBin kGt (eCallP F_sign [] (aCons (eBin kIx (eBin kIx (eFld [("Story", ["changes"])] "changes" (eVar 0)) (eBin kAdd (eVar 4) (eC (.int 1)))) (eC (.int 0))) (aCons (eVar 1) aNil))) (eC (.int 0)))))
  (sSeq (sExpr (eMethI "go_to" [("Run", F_Run_go_to)] (eVar 3) (aCons (eIf (bTru (eVar 7)) (eVar 1) (eBin kIx (eBin kIx (eFld [("Story", ["changes"])] "changes" (eVar 0)) (eBin kAdd (eVar 4) (eC (.int 1)))) (eC (.int 0)))) aNil)))
  (sExpr (eM mExt (eVar 2) (aCons (eFld [("Run", ["happened"])] "happened" (eVar 3)) aNil)))))) sPass))
  (sRet (eTup (aCons (eVar 3) (aCons (eVar 2) aNil)))))))
def F_Story_run_to : FI := toF 8 S_Story_run_to
abbrev S_Story_now : SI :=
  (sRet (eTup (aCons (eFld [("Story", ["moment"])] "moment" (eVar 0)) (aCons (eCallP F_state_of [] (aCons (eFld [("Run", ["lines"])] "lines" (eBin kIx (eMethI "run_to" [("Story", F_Story_run_to)] (eVar 0) (aCons (eFld [("Story", ["moment"])] "moment" (eVar 0)) aNil)) (eC (.int 0)))) (aCons (eFld [("Story", ["moment"])] "moment" (eVar 0)) aNil))) aNil))))
def F_Story_now : FI := toF 1 S_Story_now
abbrev S_Story_events : SI :=
  (sRet (eComp (iSeq (eBin kIx (eMethI "run_to" [("Story", F_Story_run_to)] (eVar 0) (aCons (eFld [("Story", ["moment"])] "moment" (eVar 0)) aNil)) (eC (.int 1)))) (.tp [(.nm 1), (.nm 2)]) [1, 2] bYes (eTup (aCons (eVar 1) (aCons (eB kList (aCons (eVar 2) aNil)) aNil)))))
def F_Story_events : FI := toF 3 S_Story_events
abbrev S_Story_change_ahead : SI :=
  (sSeq (sAsg (.nm 1) (eComp (iSeq (eFld [("Story", ["changes"])] "changes" (eVar 0))) (.tp [(.nm 2), (.nm 3)]) [2, 3] (bOf (eBin kGt (eCallP F_sign [] (aCons (eVar 2) (aCons (eFld [("Story", ["moment"])] "moment" (eVar 0)) aNil))) (eC (.int 0)))) (eVar 2)))
  (sRet (eIf (bOf (eBin (kEmp false) (eVar 1) (eLst aNil))) (eBin kIx (eVar 1) (eC (.int 0))) (eC .non))))
def F_Story_change_ahead : FI := toF 4 S_Story_change_ahead
abbrev S_Story_next : SI :=
  (sSeq (sAsg (.nm 1) (eBin kIx (eMethI "run_to" [("Story", F_Story_run_to)] (eVar 0) (aCons (eFld [("Story", ["moment"])] "moment" (eVar 0)) aNil)) (eC (.int 0))))
  (sSeq (sAsg (.nm 2) (eMethI "coming" [("Run", F_Run_coming)] (eVar 1) aNil))
  (sSeq (sAsg (.nm 3) (eMethI "change_ahead" [("Story", F_Story_change_ahead)] (eVar 0) aNil))
  (sSeq (sWhile (bAnd (bOf (eBin kIsNot (eVar 3) (eC .non))) (bOr (bOf (eBin kIs (eVar 2) (eC .non))) (bOf (eBin kGt (eCallP F_sign [] (aCons (eVar 2) (aCons (eVar 3) aNil))) (eC (.int 0)))))) (sSeq (sAsg (.tp [(.nm 4), (.nm 5)]) (eBin kIx (eComp (iSeq (eFld [("Story", ["changes"])] "changes" (eVar 0))) (.nm 7) [7] (bOf (eBin kEq (eBin kIx (eVar 7) (eC (.int 0))) (eVar 3))) (eVar 7)) (eC (.int 0))))
  (sSeq (sAsg (.nm 1) (eMakeI "Run" F_Run___init__ (aCons (eFld [("Story", ["weights"])] "weights" (eVar 0)) (aCons (eFld [("Story", ["kind"])] "kind" (eVar 0)) (aCons (eVar 4) (aCons (eVar 5) aNil))))))
  (sSeq (sAsg (.nm 2) (eMethI "coming" [("Run", F_Run_coming)] (eVar 1) aNil))
  (sSeq (sAsg (.nm 6) (eComp (iSeq (eFld [("Story", ["changes"])] "changes" (eVar 0))) (.nm 7) [7] (bOf (eBin kGt (eCallP F_sign [] (aCons (eBin kIx (eVar 7) (eC (.int 0))) (aCons (eVar 3) aNil))) (eC (.int 0)))) (eBin kIx (eVar 7) (eC (.int 0)))))
  (sAsg (.nm 3) (eIf (bOf (eBin (kEmp false) (eVar 6) (eLst aNil))) (eBin kIx (eVar 6) (eC (.int 0))) (eC .non))))))))
  (sSeq (sIf (bOf (eBin kIs (eVar 2) (eC .non))) (sRet (eC .non)) sPass)
  (sSeq (sExpr (eMethI "go_on" [("Run", F_Run_go_on)] (eVar 1) aNil))
  (sSeq (sSetF [("Story", ["moment"])] "moment" (eVar 0) (eVar 2))
  (sRet (eTup (aCons (eVar 2) (aCons (eB kList (aCons (eBin kIx (eBin kIx (eFld [("Run", ["happened"])] "happened" (eVar 1)) (eUn kNeg (eC (.int 1)))) (eC (.int 1))) aNil)) aNil)))))))))))
def F_Story_next : FI := toF 8 S_Story_next
abbrev S_Story_back : SI :=
  (sSeq (sAsg (.nm 1) (eComp (iSeq (eBin kIx (eMethI "run_to" [("Story", F_Story_run_to)] (eVar 0) (aCons (eFld [("Story", ["moment"])] "moment" (eVar 0)) aNil)) (eC (.int 1)))) (.nm 2) [2] (bOf (eBin kLt (eCallP F_sign [] (aCons (eBin kIx (eVar 2) (eC (.int 0))) (aCons (eFld [("Story", ["moment"])] "moment" (eVar 0)) aNil))) (eC (.int 0)))) (eBin kIx (eVar 2) (eC (.int 0)))))
  (sSeq (sSetF [("Story", ["moment"])] "moment" (eVar 0) (eIf (bOf (eBin (kEmp false) (eVar 1) (eLst aNil))) (eBin kIx (eVar 1) (eUn kNeg (eC (.int 1)))) (eTup (aCons (eC (.int 0)) (aCons (eC (.int 1)) aNil)))))
  (sRet (eFld [("Story", ["moment"])] "moment" (eVar 0)))))
def F_Story_back : FI := toF 3 S_Story_back
abbrev S_Story_to : SI :=
  (sSeq (sExpr (eCallP F_check_moment [] (aCons (eVar 1) aNil)))
  (sSeq (sExpr (eMethI "run_to" [("Story", F_Story_run_to)] (eVar 0) (aCons (eVar 1) aNil)))
  (sSetF [("Story", ["moment"])] "moment" (eVar 0) (eVar 1))))
def F_Story_to : FI := toF 2 S_Story_to
abbrev S_law_ways : SI :=
  (sRet (eComp (iEnum' (eVar 0)) (.tp [(.nm 1), (.nm 2)]) [1, 2] bYes (eTup (aCons (eVar 1) (aCons (eVar 1) (aCons (eBin kIx (eVar 2) (eC (.int 1))) (aCons (eBin kIx (eVar 2) (eC (.int 2))) aNil)))))))
def F_law_ways : FI := toF 3 S_law_ways
abbrev S_law_state : SI :=
  (sRet (eComp (iSeq (eVar 0)) (.nm 2) [2] bYes (eTup (aCons (eBin kIx (eVar 2) (eC (.int 0))) (aCons (eBin kIx (eVar 2) (eC (.int 1))) (aCons (eCallP F_law_there [] (aCons (eSl (eVar 2) (pSome (eC (.int 2))) pNone) (aCons (eVar 1) aNil))) (aCons (eBin kIx (eVar 2) (eC (.int 3))) aNil)))))))
def F_law_state : FI := toF 3 S_law_state
abbrev S_law_is_state : SI :=
  (sSeq (sIf (bOr (bNot (bTru (eB kIsi (aCons (eVar 0) (aCons (eC (.ty .list)) aNil))))) (bNot (bTru (eB kAll (aCons (eComp (iSeq (eVar 0)) (.nm 5) [5] bYes (eAnd (eB kIsi (aCons (eVar 5) (aCons (eC (.ty .tuple)) aNil))) (eBin kEq (eB kLen (aCons (eVar 5) aNil)) (eC (.int 4))))) aNil))))) (sRet (eC (.bl false))) sPass)
  (sSeq (sFor (iSeq (eVar 0)) (.tp [(.nm 1), (.nm 2), (.nm 3), (.nm 4)]) (sIf (bOr (bNot (bTru (eCallP F_law_whole [] (aCons (eVar 1) aNil)))) (bOr (bNot (bTru (eCallP F_law_whole [] (aCons (eVar 2) aNil)))) (bOr (bNot (bTru (eCallP F_law_is_share [] (aCons (eVar 3) aNil)))) (bNot (bTru (eCallP F_law_is_share [] (aCons (eVar 4) aNil))))))) (sRet (eC (.bl false))) sPass))
  (sRet (eC (.bl true)))))
def F_law_is_state : FI := toF 6 S_law_is_state
abbrev S_law_is_event : SI :=
  (sSeq (sIf (bOr (bNot (bTru (eB kIsi (aCons (eVar 0) (aCons (eC (.ty .tuple)) aNil))))) (bOr (bOf (eBin kNe (eB kLen (aCons (eVar 0) aNil)) (eC (.int 2)))) (bOr (bNot (bTru (eCallP F_law_is_share [] (aCons (eBin kIx (eVar 0) (eC (.int 0))) aNil)))) (bNot (bTru (eB kIsi (aCons (eBin kIx (eVar 0) (eC (.int 1))) (aCons (eC (.ty .list)) aNil)))))))) (sRet (eC (.bl false))) sPass)
  (sSeq (sFor (iSeq (eBin kIx (eVar 0) (eC (.int 1)))) (.nm 1) (sIf (bOr (bNot (bTru (eB kIsi (aCons (eVar 1) (aCons (eC (.ty .tuple)) aNil))))) (bOr (bOf (eBin kNe (eB kLen (aCons (eVar 1) aNil)) (eC (.int 2)))) (bOr (bNot (bTru (eCallP F_law_whole [] (aCons (eBin kIx (eVar 1) (eC (.int 0))) aNil)))) (bNot (bTru (eCallP F_law_whole [] (aCons (eBin kIx (eVar 1) (eC (.int 1))) aNil))))))) (sRet (eC (.bl false))) sPass))
  (sRet (eC (.bl true)))))
def F_law_is_event : FI := toF 2 S_law_is_event
abbrev S_law_now_right : SI :=
  (sSeq (sAsg (.nm 3) (eMethP "now" [("Story", F_Story_now)] (eVar 0) aNil))
  (sSeq (sIf (bOr (bNot (bTru (eB kIsi (aCons (eVar 3) (aCons (eC (.ty .tuple)) aNil))))) (bOr (bOf (eBin kNe (eB kLen (aCons (eVar 3) aNil)) (eC (.int 2)))) (bOr (bNot (bTru (eCallP F_law_is_share [] (aCons (eBin kIx (eVar 3) (eC (.int 0))) aNil)))) (bNot (bTru (eCallP F_law_is_state [] (aCons (eBin kIx (eVar 3) (eC (.int 1))) aNil))))))) (sRet (eC (.bl false))) sPass)
  (sSeq (sIf (bOf (eBin kNe (eVar 3) (eTup (aCons (eVar 1) (aCons (eCallP F_law_state [] (aCons (eVar 2) (aCons (eVar 1) aNil))) aNil))))) (sRet (eC (.bl false))) sPass)
  (sSeq (sExpr (eM mApp (eBin kIx (eVar 3) (eC (.int 1))) (aCons (eC (.int 0)) aNil)))
  (sRet (eBin kEq (eBin kIx (eMethP "now" [("Story", F_Story_now)] (eVar 0) aNil) (eC (.int 1))) (eSl (eBin kIx (eVar 3) (eC (.int 1))) pNone (pSome (eUn kNeg (eC (.int 1)))))))))))
def F_law_now_right : FI := toF 4 S_law_now_right
abbrev S_law_events_right : SI :=
  (sSeq (sAsg (.nm 2) (eMethP "events" [("Story", F_Story_events)] (eVar 0) aNil))
  (sSeq (sIf (bOr (bNot (bTru (eB kIsi (aCons (eVar 2) (aCons (eC (.ty .list)) aNil))))) (bOr (bNot (bTru (eB kAll (aCons (eComp (iSeq (eVar 2)) (.nm 3) [3] bYes (eCallP F_law_is_event [] (aCons (eVar 3) aNil))) aNil)))) (bOf (eBin kNe (eVar 2) (eVar 1))))) (sRet (eC (.bl false))) sPass)
  (sSeq (sFor (iSeq (eVar 2)) (.nm 3) (sExpr (eM mApp (eBin kIx (eVar 3) (eC (.int 1))) (aCons (eTup (aCons (eC (.int 0)) (aCons (eC (.int 0)) aNil))) aNil))))
  (sSeq (sExpr (eM mApp (eVar 2) (aCons (eC (.int 0)) aNil)))
  (sRet (eBin kEq (eMethP "events" [("Story", F_Story_events)] (eVar 0) aNil) (eVar 1)))))))
def F_law_events_right : FI := toF 4 S_law_events_right
abbrev S_law_part : SI :=
  (sRet (eCallP F_law_low [] (aCons (eBin kMul (eBin kIx (eVar 0) (eC (.int 0))) (eBin kIx (eVar 1) (eC (.int 1)))) (aCons (eBin kMul (eBin kIx (eVar 0) (eC (.int 1))) (eBin kIx (eVar 1) (eC (.int 0)))) aNil))))
def F_law_part : FI := toF 2 S_law_part
abbrev S_law_mean : SI :=
  (sSeq (sAsg (.nm 2) (eTup (aCons (eC (.int 0)) (aCons (eC (.int 1)) aNil))))
  (sSeq (sFor (iZip' (eVar 0) (eVar 1)) (.tp [(.nm 3), (.nm 4)]) (sAsg (.nm 2) (eCallP F_law_sum [] (aCons (eVar 2) (aCons (eCallP F_law_by [] (aCons (eTup (aCons (eVar 3) (aCons (eC (.int 1)) aNil))) (aCons (eVar 4) aNil))) aNil)))))
  (sRet (eCallP F_law_part [] (aCons (eVar 2) (aCons (eTup (aCons (eB kSum (aCons (eVar 0) aNil)) (aCons (eC (.int 1)) aNil))) aNil))))))
def F_law_mean : FI := toF 5 S_law_mean
abbrev S_law_moved : SI :=
  (sRet (eComp (iSeq (eVar 0)) (.nm 2) [2] bYes (eTup (aCons (eBin kIx (eVar 2) (eC (.int 0))) (aCons (eBin kIx (eVar 2) (eC (.int 1))) (aCons (eCallP F_law_sum [] (aCons (eBin kIx (eVar 2) (eC (.int 2))) (aCons (eCallP F_law_by [] (aCons (eBin kIx (eVar 2) (eC (.int 3))) (aCons (eVar 1) aNil))) aNil))) (aCons (eBin kIx (eVar 2) (eC (.int 3))) aNil)))))))
def F_law_moved : FI := toF 3 S_law_moved
abbrev S_law_joined : SI :=
  (sSeq (sPar2 2 3 (aCons (eLstN aNil) (aCons (eLstN aNil) aNil)))
  (sSeq (sFor (iSeq (eVar 1)) (.nm 4) (sSeq (sIf (bAnd (bOf (eBin (kEmp false) (eVar 2) (eLst aNil))) (bOf (eBin kGt (eCallP F_law_far [] (aCons (eBin kIx (eBin kIx (eVar 2) (eUn kNeg (eC (.int 1)))) (eC (.int 2))) (aCons (eBin kIx (eVar 4) (eC (.int 2))) aNil))) (eC (.int 0))))) (sRet (eTup (aCons (eC .non) (aCons (eLst aNil) aNil)))) sPass)
  (sSeq (sIf (bOr (bOf (eBin (kEmp true) (eVar 2) (eLst aNil))) (bOf (eBin kNe (eBin kIx (eBin kIx (eVar 2) (eUn kNeg (eC (.int 1)))) (eC (.int 2))) (eBin kIx (eVar 4) (eC (.int 2)))))) (sSeq (sExpr (eM mApp (eVar 2) (aCons (eVar 4) aNil)))
  sCont) sPass)
  (sSeq (sAsg (.nm 5) (eM mPop (eVar 2) aNil))
  (sSeq (sIf (bAnd (bOf (eBin (kEmp false) (eVar 3) (eLst aNil))) (bOf (eBin kEq (eBin kIx (eBin kIx (eVar 3) (eUn kNeg (eC (.int 1)))) (eC (.int 0))) (eBin kIx (eVar 5) (eC (.int 0)))))) (sExpr (eM mPop (eVar 3) aNil)) sPass)
  (sSeq (sExpr (eM mApp (eVar 3) (aCons (eTup (aCons (eBin kIx (eVar 5) (eC (.int 0))) (aCons (eBin kIx (eVar 4) (eC (.int 1))) aNil))) aNil)))
  (sSeq (sAsg (.nm 6) (eLst (aCons (eB kSum (aCons (eSl (eVar 0) (pSome (eBin kIx (eVar 5) (eC (.int 0)))) (pSome (eBin kAdd (eBin kIx (eVar 5) (eC (.int 1))) (eC (.int 1))))) aNil)) (aCons (eB kSum (aCons (eSl (eVar 0) (pSome (eBin kIx (eVar 4) (eC (.int 0)))) (pSome (eBin kAdd (eBin kIx (eVar 4) (eC (.int 1))) (eC (.int 1))))) aNil)) aNil))))
  (sExpr (eM mApp (eVar 2) (aCons (eTup (aCons (eBin kIx (eVar 5) (eC (.int 0))) (aCons (eBin kIx (eVar 4) (eC (.int 1))) (aCons (eBin kIx (eVar 4) (eC (.int 2))) (aCons (eCallP F_law_mean [] (aCons (eVar 6) (aCons (eLst (aCons (eBin kIx (eVar 5) (eC (.int 3))) (aCons (eBin kIx (eVar 4) (eC (.int 3))) aNil))) aNil))) aNil))))) aNil))))))))))
  (sRet (eTup (aCons (eVar 2) (aCons (eVar 3) aNil))))))
def F_law_joined : FI := toF 7 S_law_joined
abbrev S_law_story_right : SI :=
  (sSeq (sPar2 1 2 (aCons (eComp (iSeq (eVar 0)) (.nm 13) [13] bYes (eBin kIx (eVar 13) (eC (.int 0)))) (aCons (eMakeI "Story" F_Story___init__ (aCons (eVar 0) (aCons (eC (.str "stick")) aNil))) aNil)))
  (sSeq (sAsg (.tp [(.nm 3), (.nm 4)]) (eTup (aCons (eTup (aCons (eC (.int 0)) (aCons (eC (.int 1)) aNil))) (aCons (eCallP F_law_state [] (aCons (eCallP F_law_ways [] (aCons (eVar 0) aNil)) (aCons (eTup (aCons (eC (.int 0)) (aCons (eC (.int 1)) aNil))) aNil))) aNil))))
  (sSeq (sFor (iRange1 (eB kLen (aCons (eVar 0) aNil))) (.nm 5) (sSeq (sAsg (.nm 6) (eMethP "next" [("Story", F_Story_next)] (eVar 2) aNil))
  (sSeq (sIf (bOf (eBin kIs (eVar 6) (eC .non))) (sSeq (sAsg (.nm 12) (eComp (iRange1 (eBin kSub (eB kLen (aCons (eVar 4) aNil)) (eC (.int 1)))) (.nm 14) [14] bYes (eBin kLe (eCallP F_law_far [] (aCons (eBin kIx (eBin kIx (eVar 4) (eVar 14)) (eC (.int 3))) (aCons (eBin kIx (eBin kIx (eVar 4) (eBin kAdd (eVar 14) (eC (.int 1)))) (eC (.int 3))) aNil))) (eC (.int 0)))))
  (sRet (eAnd (eB kAll (aCons (eVar 12) aNil)) (eAnd (eBin kEq (eMethP "now" [("Story", F_Story_now)] (eVar 2) aNil) (eTup (aCons (eVar 3) (aCons (eVar 4) aNil)))) (eBin kIs (eMethP "next" [("Story", F_Story_next)] (eVar 2) aNil) (eC .non)))))) sPass)
  (sSeq (sIf (bOr (bNot (bTru (eCallP F_law_is_event [] (aCons (eVar 6) aNil)))) (bOf (eBin kLe (eCallP F_law_far [] (aCons (eBin kIx (eVar 6) (eC (.int 0))) (aCons (eVar 3) aNil))) (eC (.int 0))))) (sRet (eC (.bl false))) sPass)
  (sSeq (sAsg (.nm 7) (eCallP F_law_less [] (aCons (eBin kIx (eVar 6) (eC (.int 0))) (aCons (eVar 3) aNil))))
  (sSeq (sAsg (.tp [(.nm 8), (.nm 9)]) (eCallP F_law_joined [] (aCons (eVar 1) (aCons (eCallP F_law_moved [] (aCons (eVar 4) (aCons (eVar 7) aNil))) aNil))))
  (sSeq (sIf (bOr (bOf (eBin kIs (eVar 8) (eC .non))) (bOr (bOf (eBin (kEmp true) (eVar 9) (eLst aNil))) (bOr (bOf (eBin kNe (eBin kIx (eVar 6) (eC (.int 1))) (eVar 9))) (bOf (eBin kNe (eMethP "now" [("Story", F_Story_now)] (eVar 2) aNil) (eTup (aCons (eBin kIx (eVar 6) (eC (.int 0))) (aCons (eVar 8) aNil)))))))) (sRet (eC (.bl false))) sPass)
  (sSeq (sExpr (eM mApp (eBin kIx (eVar 6) (eC (.int 1))) (aCons (eTup (aCons (eC (.int 0)) (aCons (eC (.int 0)) aNil))) aNil)))
  (sSeq (sIf (bOf (eBin kNe (eBin kIx (eMethP "events" [("Story", F_Story_events)] (eVar 2) aNil) (eUn kNeg (eC (.int 1)))) (eTup (aCons (eBin kIx (eVar 6) (eC (.int 0))) (aCons (eVar 9) aNil))))) (sRet (eC (.bl false))) sPass)
  (sSeq (sPar2 10 11 (aCons (eMakeI "Story" F_Story___init__ (aCons (eVar 0) (aCons (eC (.str "stick")) aNil))) (aCons (eCallP F_law_by [] (aCons (eVar 7) (aCons (eTup (aCons (eC (.int 1)) (aCons (eC (.int 2)) aNil))) aNil))) aNil)))
  (sSeq (sExpr (eMethP "to" [("Story", F_Story_to)] (eVar 10) (aCons (eCallP F_law_sum [] (aCons (eVar 3) (aCons (eVar 11) aNil))) aNil)))
  (sSeq (sIf (bOf (eBin kNe (eMethP "now" [("Story", F_Story_now)] (eVar 10) aNil) (eTup (aCons (eCallP F_law_sum [] (aCons (eVar 3) (aCons (eVar 11) aNil))) (aCons (eCallP F_law_moved [] (aCons (eVar 4) (aCons (eVar 11) aNil))) aNil))))) (sRet (eC (.bl false))) sPass)
  (sAsg (.tp [(.nm 3), (.nm 4)]) (eTup (aCons (eBin kIx (eVar 6) (eC (.int 0))) (aCons (eVar 8) aNil))))))))))))))))
  (sRet (eC (.bl false))))))
def F_law_story_right : FI := toF 15 S_law_story_right
abbrev S_law_meets : SI :=
  (sSeq (sIf (bOf (eBin kLe (eCallP F_law_far [] (aCons (eBin kIx (eVar 0) (eC (.int 1))) (aCons (eBin kIx (eVar 1) (eC (.int 1))) aNil))) (eC (.int 0)))) (sRet (eC .non)) sPass)
  (sRet (eCallP F_law_part [] (aCons (eCallP F_law_less [] (aCons (eBin kIx (eVar 1) (eC (.int 0))) (aCons (eBin kIx (eVar 0) (eC (.int 0))) aNil))) (aCons (eCallP F_law_less [] (aCons (eBin kIx (eVar 0) (eC (.int 1))) (aCons (eBin kIx (eVar 1) (eC (.int 1))) aNil))) aNil)))))
def F_law_meets : FI := toF 2 S_law_meets
abbrev S_law_piles : SI :=
  (sSeq (sAsg (.nm 1) (eLstN aNil))
  (sSeq (sFor (iEnum' (eVar 0)) (.tp [(.nm 2), (.nm 3)]) (sIf (bAnd (bOf (eBin kGt (eVar 2) (eC (.int 0)))) (bOf (eBin kEq (eBin kIx (eBin kIx (eVar 0) (eBin kSub (eVar 2) (eC (.int 1)))) (eC (.int 2))) (eBin kIx (eVar 3) (eC (.int 2)))))) (sExpr (eM mApp (eBin kIx (eVar 1) (eUn kNeg (eC (.int 1)))) (aCons (eVar 2) aNil))) (sExpr (eM mApp (eVar 1) (aCons (eLst (aCons (eVar 2) aNil)) aNil)))))
  (sRet (eComp (iSeq (eVar 1)) (.nm 4) [4] (bOf (eBin kGt (eB kLen (aCons (eVar 4) aNil)) (eC (.int 1)))) (eVar 4)))))
def F_law_piles : FI := toF 5 S_law_piles
abbrev S_law_pile_right : SI :=
  (sSeq (sIf (bOf (eBin kGt (eB kLen (aCons (eVar 1) aNil)) (eC (.int 2)))) (sRet (eBin kEq (eVar 2) (eRev (eVar 1)))) sPass)
  (sSeq (sFor (iSeq (eLst (aCons (eC (.bl false)) (aCons (eC (.bl true)) aNil)))) (.nm 3) (sIf (bOf (eBin kNe (eCallP F_law_drive [] (aCons (eVar 0) (aCons (eVar 1) (aCons (eVar 3) aNil)))) (eCallP F_law_drive [] (aCons (eVar 0) (aCons (eVar 2) (aCons (eVar 3) aNil)))))) (sRet (eC (.bl false))) sPass))
  (sRet (eBin kEq (eCallP F_law_less [] (aCons (eBin kIx (eVar 2) (eC (.int 1))) (aCons (eBin kIx (eVar 2) (eC (.int 0))) aNil))) (eCallP F_law_less [] (aCons (eBin kIx (eVar 1) (eC (.int 0))) (aCons (eBin kIx (eVar 1) (eC (.int 1))) aNil)))))))
def F_law_pile_right : FI := toF 4 S_law_pile_right
abbrev S_law_met : SI :=
  (sSeq (sIf (bOr (bNot (bTru (eCallP F_law_is_state [] (aCons (eVar 3) aNil)))) (bOf (eBin kNe (eB kLen (aCons (eVar 3) aNil)) (eB kLen (aCons (eVar 1) aNil))))) (sRet (eC (.bl false))) sPass)
  (sSeq (sIf (bTru (eB kAny (aCons (eComp (iZip' (eVar 1) (eSl (eVar 1) (pSome (eC (.int 1))) pNone)) (.tp [(.nm 10), (.nm 11)]) [10, 11] bYes (eBin kGt (eCallP F_law_far [] (aCons (eBin kIx (eVar 10) (eC (.int 2))) (aCons (eBin kIx (eVar 11) (eC (.int 2))) aNil))) (eC (.int 0)))) aNil))) (sRet (eC (.bl false))) sPass)
  (sSeq (sAsg (.nm 4) (eCallP F_law_piles [] (aCons (eVar 1) aNil)))
  (sSeq (sIf (bOr (bOf (eBin (kEmp true) (eVar 4) (eLst aNil))) (bOf (eBin kNe (eBin kIx (eVar 2) (eC (.int 1))) (eComp (iSeq (eVar 4)) (.nm 6) [6] bYes (eTup (aCons (eBin kIx (eVar 6) (eC (.int 0))) (aCons (eBin kIx (eVar 6) (eUn kNeg (eC (.int 1)))) aNil))))))) (sRet (eC (.bl false))) sPass)
  (sSeq (sAsg (.nm 5) (eBin kRep (eLst (aCons (eC (.bl true)) aNil)) (eB kLen (aCons (eVar 1) aNil))))
  (sSeq (sFor (iSeq (eVar 4)) (.nm 6) (sSeq (sFor (iSeq (eVar 6)) (.nm 7) (sSetI (eVar 5) (eVar 7) (eC (.bl false))))
  (sSeq (sPar2 8 9 (aCons (eComp (iSeq (eVar 6)) (.nm 7) [7] bYes (eBin kIx (eBin kIx (eVar 1) (eVar 7)) (eC (.int 3)))) (aCons (eComp (iSeq (eVar 6)) (.nm 7) [7] bYes (eBin kIx (eBin kIx (eVar 3) (eVar 7)) (eC (.int 3)))) aNil)))
  (sIf (bNot (bTru (eCallP F_law_pile_right [] (aCons (eComp (iSeq (eVar 6)) (.nm 7) [7] bYes (eBin kIx (eVar 0) (eVar 7))) (aCons (eVar 8) (aCons (eVar 9) aNil)))))) (sRet (eC (.bl false))) sPass))))
  (sSeq (sFor (iEnum' (eVar 1)) (.tp [(.nm 7), (.nm 10)]) (sIf (bOr (bOf (eBin kNe (eSl (eBin kIx (eVar 3) (eVar 7)) pNone (pSome (eC (.int 3)))) (eSl (eVar 10) pNone (pSome (eC (.int 3)))))) (bAnd (bTru (eBin kIx (eVar 5) (eVar 7))) (bOf (eBin kNe (eBin kIx (eVar 3) (eVar 7)) (eVar 10))))) (sRet (eC (.bl false))) sPass))
  (sRet (eC (.bl true))))))))))
def F_law_met : FI := toF 12 S_law_met
abbrev S_law_spot : SI :=
  (sSeq (sAsg (.nm 3) (eComp (iSeq (eVar 2)) (.nm 7) [7] bYes (eB kSum (aCons (eSl (eVar 0) (pSome (eBin kIx (eVar 7) (eC (.int 0)))) (pSome (eBin kAdd (eBin kIx (eVar 7) (eC (.int 1))) (eC (.int 1))))) aNil))))
  (sSeq (sAsg (.nm 4) (eLst (aCons (eComp (iSeq (eVar 2)) (.nm 7) [7] bYes (eBin kIx (eVar 7) (eC (.int 2)))) (aCons (eComp (iSeq (eVar 2)) (.nm 7) [7] bYes (eBin kIx (eVar 7) (eC (.int 3)))) aNil))))
  (sSeq (sIf (bOf (eBin kEq (eVar 1) (eC (.str "stick")))) (sRet (eLst (aCons (eTup (aCons (eBin kIx (eBin kIx (eVar 2) (eC (.int 0))) (eC (.int 0))) (aCons (eBin kIx (eBin kIx (eVar 2) (eUn kNeg (eC (.int 1)))) (eC (.int 1))) (aCons (eCallP F_law_mean [] (aCons (eVar 3) (aCons (eBin kIx (eVar 4) (eC (.int 0))) aNil))) (aCons (eCallP F_law_mean [] (aCons (eVar 3) (aCons (eBin kIx (eVar 4) (eC (.int 1))) aNil))) aNil))))) aNil))) sPass)
  (sSeq (sIf (bOf (eBin kEq (eB kMin1 (aCons (eVar 3) aNil)) (eB kMax1 (aCons (eVar 3) aNil)))) (sRet (eComp (iZip' (eVar 2) (eRev (eVar 2))) (.tp [(.nm 7), (.nm 10)]) [7, 10] bYes (eTup (aCons (eBin kIx (eVar 7) (eC (.int 0))) (aCons (eBin kIx (eVar 7) (eC (.int 1))) (aCons (eBin kIx (eVar 10) (eC (.int 2))) (aCons (eBin kIx (eVar 10) (eC (.int 3))) aNil))))))) sPass)
  (sSeq (sIf (bOf (eBin kGt (eB kLen (aCons (eVar 2) aNil)) (eC (.int 2)))) (sRet (eC .non)) sPass)
  (sSeq (sAsg (.nm 5) (eComp (iSeq (eVar 4)) (.nm 9) [9] bYes (eCallP F_law_mean [] (aCons (eVar 3) (aCons (eVar 9) aNil)))))
  (sSeq (sAsg (.nm 6) (eLstN aNil))
  (sSeq (sFor (iSeq (eVar 2)) (.nm 7) (sSeq (sAsg (.nm 8) (eComp (iRange1 (eC (.int 2))) (.nm 11) [11] bYes (eCallP F_law_less [] (aCons (eCallP F_law_by [] (aCons (eTup (aCons (eC (.int 2)) (aCons (eC (.int 1)) aNil))) (aCons (eBin kIx (eVar 5) (eVar 11)) aNil))) (aCons (eBin kIx (eVar 7) (eBin kAdd (eC (.int 2)) (eVar 11))) aNil)))))
  (sExpr (eM mApp (eVar 6) (aCons (eTup (aCons (eBin kIx (eVar 7) (eC (.int 0))) (aCons (eBin kIx (eVar 7) (eC (.int 1))) (aCons (eBin kIx (eVar 8) (eC (.int 0))) (aCons (eBin kIx (eVar 8) (eC (.int 1))) aNil))))) aNil)))))
  (sRet (eVar 6))))))))))
def F_law_spot : FI := toF 12 S_law_spot
abbrev S_law_next : SI :=
  (sSeq (sAsg (.nm 1) (eC .non))
  (sSeq (sFor (iZip' (eVar 0) (eSl (eVar 0) (pSome (eC (.int 1))) pNone)) (.tp [(.nm 2), (.nm 3)]) (sSeq (sAsg (.nm 4) (eCallP F_law_meets [] (aCons (eSl (eVar 2) (pSome (eC (.int 2))) pNone) (aCons (eSl (eVar 3) (pSome (eC (.int 2))) pNone) aNil))))
  (sIf (bAnd (bOf (eBin kIsNot (eVar 4) (eC .non))) (bOr (bOf (eBin kIs (eVar 1) (eC .non))) (bOf (eBin kLt (eCallP F_law_far [] (aCons (eVar 4) (aCons (eVar 1) aNil))) (eC (.int 0)))))) (sAsg (.nm 1) (eVar 4)) sPass)))
  (sRet (eVar 1))))
def F_law_next : FI := toF 5 S_law_next
abbrev S_law_meeting : SI :=
  (sSeq (sAsg (.tp [(.nm 4), (.nm 5), (.nm 6), (.nm 7)]) (eTup (aCons (eLst aNil) (aCons (eLst aNil) (aCons (eC (.int 0)) (aCons (eC (.int 0)) aNil))))))
  (sSeq (sWhile (bOf (eBin kLt (eVar 7) (eB kLen (aCons (eVar 2) aNil)))) (sSeq (sAsg (.nm 8) (eBin kAdd (eVar 7) (eC (.int 1))))
  (sSeq (sAsg (.nm 9) (eCallP F_law_there [] (aCons (eSl (eBin kIx (eVar 2) (eVar 7)) (pSome (eC (.int 2))) pNone) (aCons (eVar 3) aNil))))
  (sSeq (sWhile (bAnd (bOf (eBin kLt (eVar 8) (eB kLen (aCons (eVar 2) aNil)))) (bOf (eBin kEq (eCallP F_law_there [] (aCons (eSl (eBin kIx (eVar 2) (eVar 8)) (pSome (eC (.int 2))) pNone) (aCons (eVar 3) aNil))) (eVar 9)))) (sAsg (.nm 8) (eBin kAdd (eVar 8) (eC (.int 1)))))
  (sSeq (sAsg (.nm 10) (eSl (eVar 2) (pSome (eVar 7)) (pSome (eVar 8))))
  (sSeq (sIf (bOf (eBin kGt (eBin kSub (eVar 8) (eVar 7)) (eC (.int 1)))) (sSeq (sExpr (eM mApp (eVar 5) (aCons (eTup (aCons (eBin kIx (eBin kIx (eVar 10) (eC (.int 0))) (eC (.int 0))) (aCons (eBin kIx (eBin kIx (eVar 10) (eUn kNeg (eC (.int 1)))) (eC (.int 1))) aNil))) aNil)))
  (sSeq (sAsg (.nm 6) (eBin kAdd (eVar 6) (eB kInt1 (aCons (eBin kNe (eBin kIx (eVar 0) (eBin kIx (eBin kIx (eVar 10) (eC (.int 0))) (eC (.int 0)))) (eBin kIx (eVar 0) (eBin kIx (eBin kIx (eVar 10) (eUn kNeg (eC (.int 1)))) (eC (.int 1))))) aNil))))
  (sSeq (sAsg (.nm 10) (eCallP F_law_spot [] (aCons (eVar 0) (aCons (eVar 1) (aCons (eVar 10) aNil)))))
  (sIf (bOf (eBin kIs (eVar 10) (eC .non))) (sRet (eTup (aCons (eC .non) (aCons (eLst aNil) (aCons (eC (.int 0)) aNil))))) sPass)))) sPass)
  (sSeq (sAsg (.nm 4) (eBin kAdd (eVar 4) (eVar 10)))
  (sAsg (.nm 7) (eVar 8)))))))))
  (sRet (eTup (aCons (eVar 4) (aCons (eVar 5) (aCons (eVar 6) aNil)))))))
def F_law_meeting : FI := toF 11 S_law_meeting
abbrev S_law_go : SI :=
  (sSeq (sPar2 4 5 (aCons (eLstN aNil) (aCons (eC (.int 0)) aNil)))
  (sSeq (sAsg (.nm 6) (eCallP F_law_next [] (aCons (eVar 2) aNil)))
  (sSeq (sWhile (bAnd (bOf (eBin kIsNot (eVar 6) (eC .non))) (bOf (eBin kLe (eCallP F_law_far [] (aCons (eVar 6) (aCons (eVar 3) aNil))) (eC (.int 0))))) (sSeq (sAsg (.tp [(.nm 7), (.nm 8), (.nm 9)]) (eCallP F_law_meeting [] (aCons (eVar 0) (aCons (eVar 1) (aCons (eVar 2) (aCons (eVar 6) aNil))))))
  (sSeq (sIf (bOf (eBin kIs (eVar 7) (eC .non))) (sRet (eTup (aCons (eVar 2) (aCons (eVar 4) (aCons (eC (.int 1)) aNil))))) sPass)
  (sSeq (sAsg (.nm 5) (eBin kAdd (eVar 5) (eVar 9)))
  (sSeq (sIf (bAnd (bOf (eBin kEq (eVar 1) (eC (.str "bounce")))) (bOf (eBin kGt (eVar 5) (eC (.int 12))))) (sRet (eTup (aCons (eVar 2) (aCons (eVar 4) (aCons (eC (.int 2)) aNil))))) sPass)
  (sSeq (sAsg (.nm 2) (eVar 7))
  (sSeq (sExpr (eM mApp (eVar 4) (aCons (eTup (aCons (eVar 6) (aCons (eVar 8) aNil))) aNil)))
  (sAsg (.nm 6) (eCallP F_law_next [] (aCons (eVar 2) aNil))))))))))
  (sRet (eTup (aCons (eVar 2) (aCons (eVar 4) (aCons (eC (.int 0)) aNil))))))))
def F_law_go : FI := toF 10 S_law_go
abbrev S_law_to : SI :=
  (sRet (eMethP "to" [("Story", F_Story_to)] (eVar 0) (aCons (eVar 1) aNil)))
def F_law_to : FI := toF 2 S_law_to
abbrev S_law_on : SI :=
  (sFor (iRange1 (eVar 1)) (.nm 2) (sExpr (eMethP "next" [("Story", F_Story_next)] (eVar 0) aNil)))
def F_law_on : FI := toF 3 S_law_on
abbrev S_law_sought : SI :=
  (sSeq (sPar2 3 4 (aCons (eComp (iSeq (eVar 0)) (.nm 12) [12] bYes (eBin kIx (eVar 12) (eC (.int 0)))) (aCons (eMakeI "Story" F_Story___init__ (aCons (eVar 0) (aCons (eVar 1) aNil))) aNil)))
  (sSeq (sPar3 5 6 7 (aCons (eTup (aCons (eC (.int 0)) (aCons (eC (.int 1)) aNil))) (aCons (eCallP F_law_ways [] (aCons (eVar 0) aNil)) (aCons (eLst aNil) aNil))))
  (sSeq (sFor (iSeq (eVar 2)) (.nm 8) (sSeq (sAsg (.tp [(.nm 9), (.nm 10), (.nm 11)]) (eCallP F_law_go [] (aCons (eVar 3) (aCons (eVar 1) (aCons (eCallP F_law_ways [] (aCons (eVar 0) aNil)) (aCons (eVar 8) aNil))))))
  (sSeq (sIf (bOf (eBin kGt (eVar 11) (eC (.int 0)))) (sIf (bNot (bTru (eCallP F_law_refused [] (aCons (eC (.gl "_law_to")) (aCons (eVar 4) (aCons (eVar 8) (aCons (eBin kIx (eTup (aCons (eC (.int 10)) (aCons (eC (.int 11)) aNil))) (eBin kSub (eVar 11) (eC (.int 1)))) aNil))))))) (sRet (eC (.bl false))) sPass) (sSeq (sIf (bOf (eBin kIsNot (eMethP "to" [("Story", F_Story_to)] (eVar 4) (aCons (eVar 8) aNil)) (eC .non))) (sRet (eC (.bl false))) sPass)
  (sPar3 5 6 7 (aCons (eVar 8) (aCons (eVar 9) (aCons (eVar 10) aNil))))))
  (sIf (bOr (bOf (eBin kNe (eMethP "now" [("Story", F_Story_now)] (eVar 4) aNil) (eTup (aCons (eVar 5) (aCons (eCallP F_law_state [] (aCons (eVar 6) (aCons (eVar 5) aNil))) aNil))))) (bOf (eBin kNe (eMethP "events" [("Story", F_Story_events)] (eVar 4) aNil) (eVar 7)))) (sRet (eC (.bl false))) sPass))))
  (sRet (eAnd (eCallP F_law_now_right [] (aCons (eVar 4) (aCons (eVar 5) (aCons (eVar 6) aNil)))) (eCallP F_law_events_right [] (aCons (eVar 4) (aCons (eVar 7) aNil))))))))
def F_law_sought : FI := toF 13 S_law_sought
abbrev S_Story_changed : SI :=
  (sSeq (sAsg (.nm 2) (eComp (iSeq (eFld [("Story", ["changes"])] "changes" (eVar 0))) (.nm 3) [3] (bOf (eBin kLt (eCallP F_sign [] (aCons (eBin kIx (eVar 3) (eC (.int 0))) (aCons (eFld [("Story", ["moment"])] "moment" (eVar 0)) aNil))) (eC (.int 0)))) (eVar 3)))
  (sSetF [("Story", ["changes"])] "changes" (eVar 0) (eBin kAdd (eVar 2) (eLst (aCons (eTup (aCons (eFld [("Story", ["moment"])] "moment" (eVar 0)) (aCons (eVar 1) aNil))) aNil)))))
def F_Story_changed : FI := toF 4 S_Story_changed
abbrev S_Story_apart_lines : SI :=
  (sSeq (sAsg (.nm 1) (eFld [("Run", ["lines"])] "lines" (eBin kIx (eMethI "run_to" [("Story", F_Story_run_to)] (eVar 0) (aCons (eFld [("Story", ["moment"])] "moment" (eVar 0)) aNil)) (eC (.int 0)))))
  (sSeq (sIf (bOf (eBin kLt (eB kLen (aCons (eCallP F_piles [] (aCons (eVar 1) (aCons (eFld [("Story", ["moment"])] "moment" (eVar 0)) aNil))) aNil)) (eB kLen (aCons (eVar 1) aNil)))) (sRaise "Together") sPass)
  (sRet (eVar 1))))
def F_Story_apart_lines : FI := toF 2 S_Story_apart_lines
abbrev S_Story_push : SI :=
  (sSeq (sExpr (eCallP F_check_bead [] (aCons (eFld [("Story", ["weights"])] "weights" (eVar 0)) (aCons (eVar 1) aNil))))
  (sSeq (sIf (bNot (bTru (eCallP F_is_mild [] (aCons (eVar 2) aNil)))) (sRaise "BadShare") sPass)
  (sSeq (sAsg (.nm 3) (eLstN aNil))
  (sSeq (sFor (iSeq (eMethI "apart_lines" [("Story", F_Story_apart_lines)] (eVar 0) aNil)) (.nm 4) (sIf (bOf (eChain kLe kLe (eBin kIx (eVar 4) (eC (.int 0))) (eVar 1) (eBin kIx (eVar 4) (eC (.int 1))))) (sSeq (sAsg (.nm 5) (eBin kIx (eBin kIx (eCallP F_state_of [] (aCons (eLst (aCons (eVar 4) aNil)) (aCons (eFld [("Story", ["moment"])] "moment" (eVar 0)) aNil))) (eC (.int 0))) (eC (.int 2))))
  (sExpr (eM mApp (eVar 3) (aCons (eTup (aCons (eBin kIx (eVar 4) (eC (.int 0))) (aCons (eBin kIx (eVar 4) (eC (.int 1))) (aCons (eCallP F_less [] (aCons (eVar 5) (aCons (eCallP F_product [] (aCons (eVar 2) (aCons (eFld [("Story", ["moment"])] "moment" (eVar 0)) aNil))) aNil))) (aCons (eVar 2) aNil))))) aNil)))) (sExpr (eM mApp (eVar 3) (aCons (eVar 4) aNil)))))
  (sExpr (eMethI "changed" [("Story", F_Story_changed)] (eVar 0) (aCons (eVar 3) aNil)))))))
def F_Story_push : FI := toF 6 S_Story_push
abbrev S_law_at : SI :=
  (sSeq (sPar3 4 5 6 (aCons (eLst aNil) (aCons (eLst aNil) (aCons (eC (.int 0)) aNil))))
  (sSeq (sFor (iEnum' (eVar 2)) (.tp [(.nm 7), (.tp [(.nm 8), (.nm 9)])]) (sIf (bAnd (bOf (eBin kEq (eVar 6) (eC (.int 0)))) (bOf (eBin kLe (eCallP F_law_far [] (aCons (eVar 8) (aCons (eVar 3) aNil))) (eC (.int 0))))) (sSeq (sAsg (.nm 10) (eVar 3))
  (sSeq (sIf (bAnd (bOf (eBin kLt (eBin kAdd (eVar 7) (eC (.int 1))) (eB kLen (aCons (eVar 2) aNil)))) (bOf (eBin kLe (eCallP F_law_far [] (aCons (eBin kIx (eBin kIx (eVar 2) (eBin kAdd (eVar 7) (eC (.int 1)))) (eC (.int 0))) (aCons (eVar 3) aNil))) (eC (.int 0))))) (sAsg (.nm 10) (eBin kIx (eBin kIx (eVar 2) (eBin kAdd (eVar 7) (eC (.int 1)))) (eC (.int 0)))) sPass)
  (sSeq (sAsg (.tp [(.nm 5), (.nm 11), (.nm 6)]) (eCallP F_law_go [] (aCons (eVar 0) (aCons (eVar 1) (aCons (eVar 9) (aCons (eVar 10) aNil))))))
  (sAsg (.nm 4) (eBin kAdd (eVar 4) (eVar 11)))))) sPass))
  (sRet (eTup (aCons (eVar 5) (aCons (eVar 4) (aCons (eVar 6) aNil)))))))
def F_law_at : FI := toF 12 S_law_at
abbrev S_law_push : SI :=
  (sRet (eMethP "push" [("Story", F_Story_push)] (eVar 0) (aCons (eBin kIx (eVar 1) (eC (.int 0))) (aCons (eBin kIx (eVar 1) (eC (.int 1))) aNil))))
def F_law_push : FI := toF 2 S_law_push
abbrev S_law_pushed : SI :=
  (sSeq (sPar2 3 4 (aCons (eComp (iSeq (eVar 0)) (.nm 15) [15] bYes (eBin kIx (eVar 15) (eC (.int 0)))) (aCons (eMakeI "Story" F_Story___init__ (aCons (eVar 0) (aCons (eVar 1) aNil))) aNil)))
  (sSeq (sPar3 5 6 7 (aCons (eLst (aCons (eTup (aCons (eTup (aCons (eC (.int 0)) (aCons (eC (.int 1)) aNil))) (aCons (eCallP F_law_ways [] (aCons (eVar 0) aNil)) aNil))) aNil)) (aCons (eTup (aCons (eC (.int 0)) (aCons (eC (.int 1)) aNil))) (aCons (eB kSum (aCons (eSl (eVar 2) pNone (pSome (eC (.int 63)))) aNil)) aNil))))
  (sSeq (sFor (iEnum' (eBin kAdd (eSl (eVar 2) pNone (pSome (eC (.int 2)))) (eLst (aCons (eC (.int 7)) aNil)))) (.tp [(.nm 8), (.nm 9)]) (sSeq (sAsg (.nm 10) (eCallP F_law_number [] (aCons (eVar 9) (aCons (eBin kAdd (eVar 8) (eC (.int 8))) (aCons (eVar 7) aNil)))))
  (sSeq (sAsg (.nm 11) (eCallP F_law_low [] (aCons (eBin kMod (eVar 10) (eC (.int 9))) (aCons (eBin kAdd (eC (.int 1)) (eBin kMod (eBin kDiv (eVar 10) (eC (.int 9))) (eC (.int 3)))) aNil))))
  (sSeq (sAsg (.tp [(.nm 12), (.nm 13), (.nm 14)]) (eCallP F_law_at [] (aCons (eVar 3) (aCons (eVar 1) (aCons (eVar 5) (aCons (eVar 11) aNil))))))
  (sSeq (sIf (bOf (eBin kGt (eVar 14) (eC (.int 0)))) (sRet (eC (.bl true))) sPass)
  (sSeq (sExpr (eMethP "to" [("Story", F_Story_to)] (eVar 4) (aCons (eVar 11) aNil)))
  (sSeq (sPar2 6 15 (aCons (eVar 11) (aCons (eBin kMod (eBin kDiv (eVar 10) (eC (.int 27))) (eB kLen (aCons (eVar 0) aNil))) aNil)))
  (sSeq (sAsg (.nm 16) (eCallP F_law_low [] (aCons (eBin kSub (eBin kMod (eBin kDiv (eVar 10) (eC (.int 270))) (eC (.int 9))) (eC (.int 4))) (aCons (eBin kAdd (eC (.int 1)) (eBin kMod (eBin kDiv (eVar 10) (eC (.int 7))) (eC (.int 3)))) aNil))))
  (sSeq (sAsg (.nm 17) (eComp (iSeq (eVar 12)) (.nm 20) [20] bYes (eCallP F_law_there [] (aCons (eSl (eVar 20) (pSome (eC (.int 2))) pNone) (aCons (eVar 11) aNil)))))
  (sSeq (sIf (bTru (eB kAny (aCons (eComp (iZip' (eVar 17) (eSl (eVar 17) (pSome (eC (.int 1))) pNone)) (.tp [(.nm 22), (.nm 23)]) [22, 23] bYes (eBin kEq (eVar 22) (eVar 23))) aNil))) (sIf (bNot (bTru (eCallP F_law_refused [] (aCons (eC (.gl "_law_push")) (aCons (eVar 4) (aCons (eTup (aCons (eVar 15) (aCons (eVar 16) aNil))) (aCons (eC (.int 9)) aNil))))))) (sRet (eC (.bl false))) sPass) (sSeq (sIf (bOf (eBin kIsNot (eMethP "push" [("Story", F_Story_push)] (eVar 4) (aCons (eVar 15) (aCons (eVar 16) aNil))) (eC .non))) (sRet (eC (.bl false))) sPass)
  (sSeq (sAsg (.nm 19) (eLstN aNil))
  (sSeq (sFor (iZip' (eVar 12) (eVar 17)) (.tp [(.nm 20), (.nm 21)]) (sSeq (sIf (bOf (eChain kLe kLe (eBin kIx (eVar 20) (eC (.int 0))) (eVar 15) (eBin kIx (eVar 20) (eC (.int 1))))) (sAsg (.nm 20) (eTup (aCons (eBin kIx (eVar 20) (eC (.int 0))) (aCons (eBin kIx (eVar 20) (eC (.int 1))) (aCons (eCallP F_law_less [] (aCons (eVar 21) (aCons (eCallP F_law_by [] (aCons (eVar 16) (aCons (eVar 11) aNil))) aNil))) (aCons (eVar 16) aNil)))))) sPass)
  (sExpr (eM mApp (eVar 19) (aCons (eVar 20) aNil)))))
  (sAsg (.nm 5) (eBin kAdd (eComp (iSeq (eVar 5)) (.nm 24) [24] (bOf (eBin kLt (eCallP F_law_far [] (aCons (eBin kIx (eVar 24) (eC (.int 0))) (aCons (eVar 11) aNil))) (eC (.int 0)))) (eVar 24)) (eLst (aCons (eTup (aCons (eVar 11) (aCons (eVar 19) aNil))) aNil))))))))
  (sFor (iSeq (eLst (aCons (eVar 6) (aCons (eCallP F_law_by [] (aCons (eVar 6) (aCons (eTup (aCons (eC (.int 1)) (aCons (eC (.int 2)) aNil))) aNil))) (aCons (eCallP F_law_sum [] (aCons (eVar 6) (aCons (eTup (aCons (eC (.int 3)) (aCons (eC (.int 2)) aNil))) aNil))) aNil))))) (.nm 18) (sSeq (sAsg (.tp [(.nm 12), (.nm 13), (.nm 14)]) (eCallP F_law_at [] (aCons (eVar 3) (aCons (eVar 1) (aCons (eVar 5) (aCons (eVar 18) aNil))))))
  (sIf (bOf (eBin kEq (eVar 14) (eC (.int 0)))) (sSeq (sExpr (eMethP "to" [("Story", F_Story_to)] (eVar 4) (aCons (eVar 18) aNil)))
  (sIf (bOr (bOf (eBin kNe (eMethP "now" [("Story", F_Story_now)] (eVar 4) aNil) (eTup (aCons (eVar 18) (aCons (eCallP F_law_state [] (aCons (eVar 12) (aCons (eVar 18) aNil))) aNil))))) (bOf (eBin kNe (eMethP "events" [("Story", F_Story_events)] (eVar 4) aNil) (eVar 13)))) (sRet (eC (.bl false))) sPass)) sPass)))))))))))))
  (sRet (eC (.bl true))))))
def F_law_pushed : FI := toF 25 S_law_pushed
abbrev S_Story_turn : SI :=
  (sSeq (sAsg (.nm 1) (eLstN aNil))
  (sSeq (sFor (iSeq (eMethI "apart_lines" [("Story", F_Story_apart_lines)] (eVar 0) aNil)) (.nm 2) (sSeq (sAsg (.tp [(.nm 3), (.nm 4), (.nm 5), (.nm 6)]) (eBin kIx (eCallP F_state_of [] (aCons (eLst (aCons (eVar 2) aNil)) (aCons (eFld [("Story", ["moment"])] "moment" (eVar 0)) aNil))) (eC (.int 0))))
  (sSeq (sAsg (.nm 7) (eTup (aCons (eUn kNeg (eBin kIx (eVar 6) (eC (.int 0)))) (aCons (eBin kIx (eVar 6) (eC (.int 1))) aNil))))
  (sExpr (eM mApp (eVar 1) (aCons (eTup (aCons (eVar 3) (aCons (eVar 4) (aCons (eCallP F_less [] (aCons (eVar 5) (aCons (eCallP F_product [] (aCons (eVar 7) (aCons (eFld [("Story", ["moment"])] "moment" (eVar 0)) aNil))) aNil))) (aCons (eVar 7) aNil))))) aNil))))))
  (sExpr (eMethI "changed" [("Story", F_Story_changed)] (eVar 0) (aCons (eVar 1) aNil)))))
def F_Story_turn : FI := toF 8 S_Story_turn
abbrev S_law_turn : SI :=
  (sRet (eMethP "turn" [("Story", F_Story_turn)] (eVar 0) aNil))
def F_law_turn : FI := toF 2 S_law_turn
abbrev S_law_apart : SI :=
  (sSeq (sAsg (.nm 2) (eComp (iSeq (eVar 0)) (.nm 3) [3] bYes (eCallP F_law_there [] (aCons (eSl (eVar 3) (pSome (eC (.int 2))) pNone) (aCons (eVar 1) aNil)))))
  (sRet (eNot (eB kAny (aCons (eComp (iZip' (eVar 2) (eSl (eVar 2) (pSome (eC (.int 1))) pNone)) (.tp [(.nm 4), (.nm 5)]) [4, 5] bYes (eBin kEq (eVar 4) (eVar 5))) aNil)))))
def F_law_apart : FI := toF 6 S_law_apart
abbrev S_law_coming : SI :=
  (sSeq (sAsg (.nm 2) (eC .non))
  (sSeq (sFor (iRange1 (eBin kSub (eB kLen (aCons (eVar 0) aNil)) (eC (.int 1)))) (.nm 3) (sSeq (sAsg (.nm 4) (eCallP F_law_less [] (aCons (eBin kIx (eVar 1) (eVar 3)) (aCons (eBin kIx (eVar 1) (eBin kAdd (eVar 3) (eC (.int 1)))) aNil))))
  (sIf (bOf (eBin kGt (eBin kIx (eVar 4) (eC (.int 0))) (eC (.int 0)))) (sSeq (sAsg (.nm 5) (eCallP F_law_part [] (aCons (eCallP F_law_less [] (aCons (eBin kIx (eVar 0) (eBin kAdd (eVar 3) (eC (.int 1)))) (aCons (eBin kIx (eVar 0) (eVar 3)) aNil))) (aCons (eVar 4) aNil))))
  (sIf (bOr (bOf (eBin kIs (eVar 2) (eC .non))) (bOf (eBin kLt (eCallP F_law_far [] (aCons (eVar 5) (aCons (eBin kIx (eVar 2) (eC (.int 0))) aNil))) (eC (.int 0))))) (sAsg (.nm 2) (eTup (aCons (eVar 5) (aCons (eVar 3) aNil)))) (sIf (bOf (eBin kEq (eCallP F_law_far [] (aCons (eVar 5) (aCons (eBin kIx (eVar 2) (eC (.int 0))) aNil))) (eC (.int 0)))) (sAsg (.nm 2) (eTup (aCons (eVar 5) (aCons (eUn kNeg (eC (.int 1))) aNil)))) sPass))) sPass)))
  (sRet (eVar 2))))
def F_law_coming : FI := toF 6 S_law_coming
abbrev S_law_new : SI :=
  (sSeq (sAsg (.nm 4) (eLstN aNil))
  (sSeq (sFor (iSeq (eVar 0)) (.nm 5) (sSeq (sPar2 6 7 (aCons (eCallP F_law_there [] (aCons (eSl (eVar 5) (pSome (eC (.int 2))) pNone) (aCons (eVar 1) aNil))) (aCons (eBin kIx (eVar 5) (eC (.int 3))) aNil)))
  (sSeq (sIf (bOf (eBin kIs (eVar 2) (eC .non))) (sAsg (.nm 7) (eTup (aCons (eUn kNeg (eBin kIx (eVar 7) (eC (.int 0)))) (aCons (eBin kIx (eVar 7) (eC (.int 1))) aNil)))) (sIf (bOf (eChain kLe kLe (eBin kIx (eVar 5) (eC (.int 0))) (eVar 2) (eBin kIx (eVar 5) (eC (.int 1))))) (sAsg (.nm 7) (eVar 3)) sPass))
  (sExpr (eM mApp (eVar 4) (aCons (eTup (aCons (eBin kIx (eVar 5) (eC (.int 0))) (aCons (eBin kIx (eVar 5) (eC (.int 1))) (aCons (eCallP F_law_less [] (aCons (eVar 6) (aCons (eCallP F_law_by [] (aCons (eVar 7) (aCons (eVar 1) aNil))) aNil))) (aCons (eVar 7) aNil))))) aNil))))))
  (sRet (eVar 4))))
def F_law_new : FI := toF 8 S_law_new
abbrev S_law_did : SI :=
  (sSeq (sTry ["BadRow", "BadKind", "BadBead", "BadMoment", "Crowded", "TooMany", "Together", "BadShare"] (some 3) (sSeq (sIf (bOf (eBin kEq (eVar 1) (eC (.int 0)))) (sRet (eTup (aCons (eMethP "next" [("Story", F_Story_next)] (eVar 0) aNil) (aCons (eC (.int 0)) aNil)))) sPass)
  (sSeq (sIf (bOf (eBin kEq (eVar 1) (eC (.int 1)))) (sRet (eTup (aCons (eMethP "back" [("Story", F_Story_back)] (eVar 0) aNil) (aCons (eC (.int 0)) aNil)))) sPass)
  (sSeq (sIf (bOf (eBin kEq (eVar 1) (eC (.int 2)))) (sRet (eTup (aCons (eMethP "to" [("Story", F_Story_to)] (eVar 0) (aCons (eVar 2) aNil)) (aCons (eC (.int 0)) aNil)))) sPass)
  (sRet (eTup (aCons (eIf (bOf (eBin kEq (eVar 1) (eC (.int 3)))) (eMethP "push" [("Story", F_Story_push)] (eVar 0) (aCons (eBin kIx (eVar 2) (eC (.int 0))) (aCons (eBin kIx (eVar 2) (eC (.int 1))) aNil))) (eMethP "turn" [("Story", F_Story_turn)] (eVar 0) aNil)) (aCons (eC (.int 0)) aNil))))))) (sFor (iSeq (eLst (aCons (eC (.int 9)) (aCons (eC (.int 10)) (aCons (eC (.int 11)) aNil))))) (.nm 4) (sIf (bTru (eCallP F_law_alone [] (aCons (eVar 3) (aCons (eVar 4) aNil)))) (sRet (eTup (aCons (eC .non) (aCons (eVar 4) aNil)))) sPass)))
  (sRet (eTup (aCons (eC .non) (aCons (eUn kNeg (eC (.int 1))) aNil)))))
def F_law_did : FI := toF 5 S_law_did
abbrev S_law_deeds_right : SI :=
  (sSeq (sPar2 3 4 (aCons (eComp (iSeq (eVar 0)) (.nm 20) [20] bYes (eBin kIx (eVar 20) (eC (.int 0)))) (aCons (eMakeI "Story" F_Story___init__ (aCons (eVar 0) (aCons (eVar 1) aNil))) aNil)))
  (sSeq (sPar3 5 6 7 (aCons (eLst (aCons (eTup (aCons (eTup (aCons (eC (.int 0)) (aCons (eC (.int 1)) aNil))) (aCons (eCallP F_law_ways [] (aCons (eVar 0) aNil)) aNil))) aNil)) (aCons (eTup (aCons (eC (.int 0)) (aCons (eC (.int 1)) aNil))) (aCons (eB kSum (aCons (eSl (eVar 2) pNone (pSome (eC (.int 63)))) aNil)) aNil))))
  (sSeq (sFor (iEnum' (eBin kAdd (eSl (eVar 2) pNone (pSome (eC (.int 5)))) (eLst (aCons (eC (.int 0)) (aCons (eC (.int 3)) (aCons (eC (.int 0)) aNil)))))) (.tp [(.nm 8), (.nm 9)]) (sSeq (sAsg (.nm 10) (eCallP F_law_number [] (aCons (eVar 9) (aCons (eBin kAdd (eVar 8) (eC (.int 2))) (aCons (eVar 7) aNil)))))
  (sSeq (sAsg (.nm 11) (eBin kIx (eTup (aCons (eC (.int 0)) (aCons (eC (.int 0)) (aCons (eC (.int 1)) (aCons (eC (.int 2)) (aCons (eC (.int 2)) (aCons (eC (.int 3)) (aCons (eC (.int 3)) (aCons (eC (.int 4)) aNil))))))))) (eBin kMod (eVar 10) (eC (.int 8)))))
  (sSeq (sAsg (.nm 12) (eCallP F_law_low [] (aCons (eBin kMod (eBin kDiv (eVar 10) (eC (.int 8))) (eC (.int 12))) (aCons (eBin kAdd (eC (.int 1)) (eBin kMod (eBin kDiv (eVar 10) (eC (.int 96))) (eC (.int 3)))) aNil))))
  (sSeq (sIf (bOf (eBin kGt (eVar 11) (eC (.int 2)))) (sAsg (.nm 12) (eTup (aCons (eBin kMod (eBin kDiv (eVar 10) (eC (.int 8))) (eB kLen (aCons (eVar 0) aNil))) (aCons (eCallP F_law_low [] (aCons (eBin kSub (eBin kMod (eBin kDiv (eVar 10) (eC (.int 96))) (eC (.int 7))) (eC (.int 3))) (aCons (eBin kAdd (eC (.int 1)) (eBin kMod (eBin kDiv (eVar 10) (eC (.int 9))) (eC (.int 2)))) aNil))) aNil)))) sPass)
  (sSeq (sAsg (.tp [(.nm 13), (.nm 14), (.nm 15), (.nm 16)]) (eCallP F_law_due [] (aCons (eVar 3) (aCons (eVar 1) (aCons (eVar 5) (aCons (eVar 6) (aCons (eVar 11) (aCons (eVar 12) aNil))))))))
  (sSeq (sIf (bOf (eBin kNe (eCallP F_law_did [] (aCons (eVar 4) (aCons (eVar 11) (aCons (eVar 12) aNil)))) (eTup (aCons (eVar 13) (aCons (eVar 14) aNil))))) (sRet (eC (.bl false))) sPass)
  (sSeq (sPar2 6 5 (aCons (eVar 15) (aCons (eVar 16) aNil)))
  (sSeq (sAsg (.tp [(.nm 17), (.nm 18), (.nm 19)]) (eCallP F_law_at [] (aCons (eVar 3) (aCons (eVar 1) (aCons (eVar 5) (aCons (eVar 6) aNil))))))
  (sIf (bOr (bOf (eBin kNe (eMethP "now" [("Story", F_Story_now)] (eVar 4) aNil) (eTup (aCons (eVar 6) (aCons (eCallP F_law_state [] (aCons (eVar 17) (aCons (eVar 6) aNil))) aNil))))) (bOf (eBin kNe (eMethP "events" [("Story", F_Story_events)] (eVar 4) aNil) (eVar 18)))) (sRet (eC (.bl false))) sPass))))))))))
  (sRet (eAnd (eCallP F_law_now_right [] (aCons (eVar 4) (aCons (eVar 6) (aCons (eVar 17) aNil)))) (eCallP F_law_events_right [] (aCons (eVar 4) (aCons (eVar 18) aNil))))))))
def F_law_deeds_right : FI := toF 21 S_law_deeds_right
abbrev S_clumps_at : SI :=
  (sSeq (sAsg (.nm 2) (eLstN aNil))
  (sSeq (sFor (iRange1 (eB kLen (aCons (eVar 0) aNil))) (.nm 3) (sSeq (sAsg (.nm 4) (eVar 3))
  (sSeq (sWhile (bOf (eBin (kEmp false) (eVar 2) (eLst aNil))) (sSeq (sPar2 5 6 (aCons (eCallP F_line_in [] (aCons (eVar 0) (aCons (eBin kIx (eBin kIx (eVar 2) (eUn kNeg (eC (.int 1)))) (eC (.int 0))) (aCons (eBin kIx (eBin kIx (eVar 2) (eUn kNeg (eC (.int 1)))) (eC (.int 1))) aNil)))) (aCons (eCallP F_line_in [] (aCons (eVar 0) (aCons (eVar 4) (aCons (eVar 3) aNil)))) aNil)))
  (sSeq (sIf (bOf (eBin kLt (eCallP F_sign [] (aCons (eCallP F_at_moment [] (aCons (eVar 5) (aCons (eVar 1) aNil))) (aCons (eCallP F_at_moment [] (aCons (eVar 6) (aCons (eVar 1) aNil))) aNil))) (eC (.int 0)))) sBreak sPass)
  (sAsg (.nm 4) (eBin kIx (eM mPop (eVar 2) aNil) (eC (.int 0)))))))
  (sExpr (eM mApp (eVar 2) (aCons (eTup (aCons (eVar 4) (aCons (eVar 3) aNil))) aNil))))))
  (sRet (eVar 2))))
def F_clumps_at : FI := toF 7 S_clumps_at
abbrev S_stuck_at : SI :=
  (sSeq (sExpr (eCallP F_check_row [] (aCons (eVar 0) aNil)))
  (sSeq (sExpr (eCallP F_check_moment [] (aCons (eVar 1) aNil)))
  (sSeq (sAsg (.nm 2) (eLstN aNil))
  (sSeq (sFor (iSeq (eCallP F_clumps_at [] (aCons (eVar 0) (aCons (eVar 1) aNil)))) (.tp [(.nm 3), (.nm 4)]) (sSeq (sAsg (.nm 5) (eCallP F_line_in [] (aCons (eVar 0) (aCons (eVar 3) (aCons (eVar 4) aNil)))))
  (sExpr (eM mApp (eVar 2) (aCons (eTup (aCons (eVar 3) (aCons (eVar 4) (aCons (eCallP F_at_moment [] (aCons (eVar 5) (aCons (eVar 1) aNil))) (aCons (eBin kIx (eVar 5) (eC (.int 1))) aNil))))) aNil)))))
  (sRet (eVar 2))))))
def F_stuck_at : FI := toF 6 S_stuck_at
abbrev S_law_middles : SI :=
  (sSeq (sAsg (.nm 2) eDct)
  (sSeq (sFor (iRange1 (eB kLen (aCons (eVar 0) aNil))) (.nm 3) (sSeq (sAsg (.tp [(.nm 4), (.nm 5)]) (eTup (aCons (eC (.int 0)) (aCons (eTup (aCons (eC (.int 0)) (aCons (eC (.int 1)) aNil))) aNil))))
  (sFor (iRange2 (eVar 3) (eB kLen (aCons (eVar 0) aNil))) (.nm 6) (sSeq (sAsg (.nm 4) (eBin kAdd (eVar 4) (eBin kIx (eBin kIx (eVar 0) (eVar 6)) (eC (.int 0)))))
  (sSeq (sAsg (.nm 5) (eCallP F_law_sum [] (aCons (eVar 5) (aCons (eCallP F_law_by [] (aCons (eTup (aCons (eBin kIx (eBin kIx (eVar 0) (eVar 6)) (eC (.int 0))) (aCons (eC (.int 1)) aNil))) (aCons (eCallP F_law_there [] (aCons (eSl (eBin kIx (eVar 0) (eVar 6)) (pSome (eC (.int 1))) pNone) (aCons (eVar 1) aNil))) aNil))) aNil))))
  (sSetI (eVar 2) (eTup (aCons (eVar 3) (aCons (eVar 6) aNil))) (eCallP F_law_part [] (aCons (eVar 5) (aCons (eTup (aCons (eVar 4) (aCons (eC (.int 1)) aNil))) aNil)))))))))
  (sRet (eVar 2))))
def F_law_middles : FI := toF 7 S_law_middles
abbrev S_law_is_one : SI :=
  (sSeq (sFor (iRange2 (eVar 1) (eVar 2)) (.nm 3) (sIf (bOf (eBin kLt (eCallP F_law_far [] (aCons (eBin kIx (eVar 0) (eTup (aCons (eVar 1) (aCons (eVar 3) aNil)))) (aCons (eBin kIx (eVar 0) (eTup (aCons (eBin kAdd (eVar 3) (eC (.int 1))) (aCons (eVar 2) aNil)))) aNil))) (eC (.int 0)))) (sRet (eC (.bl false))) sPass))
  (sRet (eC (.bl true))))
def F_law_is_one : FI := toF 4 S_law_is_one
abbrev S_told_events : SI :=
  (sSeq (sAsg (.nm 3) (eMakeI "Run" F_Run___init__ (aCons (eComp (iSeq (eVar 0)) (.nm 4) [4] bYes (eBin kIx (eVar 4) (eC (.int 0)))) (aCons (eVar 1) (aCons (eTup (aCons (eC (.int 0)) (aCons (eC (.int 1)) aNil))) (aCons (eCallP F_first_lines [] (aCons (eVar 0) aNil)) aNil))))))
  (sSeq (sExpr (eMethI "go_to" [("Run", F_Run_go_to)] (eVar 3) (aCons (eVar 2) aNil)))
  (sRet (eFld [("Run", ["happened"])] "happened" (eVar 3)))))
def F_told_events : FI := toF 5 S_told_events
abbrev S_is_one : SI :=
  (sSeq (sFor (iRange2 (eVar 2) (eVar 3)) (.nm 4) (sSeq (sPar2 5 6 (aCons (eCallP F_middle_in [] (aCons (eVar 0) (aCons (eVar 2) (aCons (eVar 4) (aCons (eVar 1) aNil))))) (aCons (eCallP F_middle_in [] (aCons (eVar 0) (aCons (eBin kAdd (eVar 4) (eC (.int 1))) (aCons (eVar 3) (aCons (eVar 1) aNil))))) aNil)))
  (sIf (bOf (eBin kLt (eCallP F_sign [] (aCons (eVar 5) (aCons (eVar 6) aNil))) (eC (.int 0)))) (sRet (eC (.bl false))) sPass)))
  (sRet (eC (.bl true))))
def F_is_one : FI := toF 7 S_is_one
abbrev S_is_apart : SI :=
  (sSeq (sAsg (.nm 3) (eComp (iRange1 (eBin kAdd (eVar 2) (eC (.int 1)))) (.nm 6) [6] bYes (eCallP F_middle_in [] (aCons (eVar 0) (aCons (eVar 6) (aCons (eVar 2) (aCons (eVar 1) aNil)))))))
  (sSeq (sFor (iRange2 (eBin kAdd (eVar 2) (eC (.int 1))) (eB kLen (aCons (eVar 0) aNil))) (.nm 4) (sSeq (sAsg (.nm 5) (eCallP F_middle_in [] (aCons (eVar 0) (aCons (eBin kAdd (eVar 2) (eC (.int 1))) (aCons (eVar 4) (aCons (eVar 1) aNil))))))
  (sIf (bTru (eB kAny (aCons (eComp (iSeq (eVar 3)) (.nm 7) [7] bYes (eBin kGe (eCallP F_sign [] (aCons (eVar 7) (aCons (eVar 5) aNil))) (eC (.int 0)))) aNil))) (sRet (eC (.bl false))) sPass)))
  (sRet (eC (.bl true)))))
def F_is_apart : FI := toF 8 S_is_apart
abbrev S_Parted_shows : SI :=
  (sRet (eAnd (eCallP F_is_number [] (aCons (eFld [("Parted", ["cut"])] "cut" (eVar 0)) aNil)) (eAnd (eChain kLe kLt (eVar 3) (eFld [("Parted", ["cut"])] "cut" (eVar 0)) (eVar 4)) (eCallP F_is_apart [] (aCons (eVar 1) (aCons (eVar 2) (aCons (eFld [("Parted", ["cut"])] "cut" (eVar 0)) aNil)))))))
def F_Parted_shows : FI := toF 5 S_Parted_shows
abbrev S_first_unlike : SI :=
  (sSeq (sFor (iRange1 (eB kMax2 (aCons (eB kLen (aCons (eVar 0) aNil)) (aCons (eB kLen (aCons (eVar 1) aNil)) aNil)))) (.nm 2) (sIf (bOr (bOf (eBin kGe (eVar 2) (eB kLen (aCons (eVar 0) aNil)))) (bOr (bOf (eBin kGe (eVar 2) (eB kLen (aCons (eVar 1) aNil)))) (bOf (eBin kNe (eBin kIx (eVar 0) (eVar 2)) (eBin kIx (eVar 1) (eVar 2)))))) (sRet (eVar 2)) sPass))
  (sRet (eC .non)))
def F_first_unlike : FI := toF 3 S_first_unlike
abbrev S_Right_shows : SI :=
  (sRet (eBin kEq (eVar 4) (eCallP F_told_events [] (aCons (eVar 1) (aCons (eVar 2) (aCons (eVar 3) aNil))))))
def F_Right_shows : FI := toF 5 S_Right_shows
abbrev S_Wrong_shows : SI :=
  (sSeq (sAsg (.nm 5) (eCallP F_first_unlike [] (aCons (eVar 4) (aCons (eCallP F_told_events [] (aCons (eVar 1) (aCons (eVar 2) (aCons (eVar 3) aNil)))) aNil))))
  (sRet (eAnd (eBin kIsNot (eVar 5) (eC .non)) (eBin kEq (eFld [("Wrong", ["count"])] "count" (eVar 0)) (eVar 5)))))
def F_Wrong_shows : FI := toF 6 S_Wrong_shows
abbrev S_together : SI :=
  (sSeq (sExpr (eCallP F_check_row [] (aCons (eVar 0) aNil)))
  (sSeq (sExpr (eCallP F_check_moment [] (aCons (eVar 1) aNil)))
  (sSeq (sExpr (eCallP F_check_bead [] (aCons (eVar 0) (aCons (eVar 2) aNil))))
  (sSeq (sExpr (eCallP F_check_bead [] (aCons (eVar 0) (aCons (eVar 3) aNil))))
  (sSeq (sIf (bOf (eBin kGe (eVar 2) (eVar 3))) (sRaise "BadBead") sPass)
  (sSeq (sFor (iSeq (eCallP F_clumps_at [] (aCons (eVar 0) (aCons (eVar 1) aNil)))) (.tp [(.nm 4), (.nm 5)]) (sIf (bOf (eChain kLe kLe (eVar 4) (eVar 2) (eVar 5))) (sRet (eIf (bOf (eBin kLe (eVar 3) (eVar 5))) (eMakeF "One" F_One___init__ (aCons (eVar 4) (aCons (eVar 5) aNil))) (eMakeF "Parted" F_Parted___init__ (aCons (eVar 5) aNil)))) sPass))
  (sRet (eC .non))))))))
def F_together : FI := toF 6 S_together
abbrev S_law_is_apart : SI :=
  (sSeq (sFor (iRange1 (eBin kAdd (eVar 2) (eC (.int 1)))) (.nm 3) (sFor (iRange2 (eBin kAdd (eVar 2) (eC (.int 1))) (eVar 1)) (.nm 4) (sIf (bOf (eBin kGe (eCallP F_law_far [] (aCons (eBin kIx (eVar 0) (eTup (aCons (eVar 3) (aCons (eVar 2) aNil)))) (aCons (eBin kIx (eVar 0) (eTup (aCons (eBin kAdd (eVar 2) (eC (.int 1))) (aCons (eVar 4) aNil)))) aNil))) (eC (.int 0)))) (sRet (eC (.bl false))) sPass)))
  (sRet (eC (.bl true))))
def F_law_is_apart : FI := toF 5 S_law_is_apart
abbrev S_ended : SI :=
  (sSeq (sExpr (eCallP F_check_row [] (aCons (eVar 0) aNil)))
  (sSeq (sAsg (.nm 1) (eLstN aNil))
  (sSeq (sFor (iRange1 (eB kLen (aCons (eVar 0) aNil))) (.nm 2) (sSeq (sAsg (.nm 3) (eVar 2))
  (sSeq (sWhile (bOf (eBin (kEmp false) (eVar 1) (eLst aNil))) (sSeq (sPar2 4 5 (aCons (eCallP F_line_in [] (aCons (eVar 0) (aCons (eBin kIx (eBin kIx (eVar 1) (eUn kNeg (eC (.int 1)))) (eC (.int 0))) (aCons (eBin kIx (eBin kIx (eVar 1) (eUn kNeg (eC (.int 1)))) (eC (.int 1))) aNil)))) (aCons (eCallP F_line_in [] (aCons (eVar 0) (aCons (eVar 3) (aCons (eVar 2) aNil)))) aNil)))
  (sSeq (sIf (bOr (bOf (eBin kLt (eCallP F_sign [] (aCons (eBin kIx (eVar 4) (eC (.int 1))) (aCons (eBin kIx (eVar 5) (eC (.int 1))) aNil))) (eC (.int 0)))) (bAnd (bOf (eBin kEq (eBin kIx (eVar 4) (eC (.int 1))) (eBin kIx (eVar 5) (eC (.int 1))))) (bOf (eBin kLt (eCallP F_sign [] (aCons (eBin kIx (eVar 4) (eC (.int 0))) (aCons (eBin kIx (eVar 5) (eC (.int 0))) aNil))) (eC (.int 0)))))) sBreak sPass)
  (sAsg (.nm 3) (eBin kIx (eM mPop (eVar 1) aNil) (eC (.int 0)))))))
  (sExpr (eM mApp (eVar 1) (aCons (eTup (aCons (eVar 3) (aCons (eVar 2) aNil))) aNil))))))
  (sSeq (sAsg (.nm 6) (eTup (aCons (eC (.int 0)) (aCons (eC (.int 1)) aNil))))
  (sSeq (sFor (iSeq (eVar 1)) (.tp [(.nm 3), (.nm 7)]) (sFor (iRange2 (eVar 3) (eVar 7)) (.nm 8) (sSeq (sAsg (.nm 9) (eCallP F_crossing [] (aCons (eCallP F_line_in [] (aCons (eVar 0) (aCons (eVar 3) (aCons (eVar 8) aNil)))) (aCons (eCallP F_line_in [] (aCons (eVar 0) (aCons (eBin kAdd (eVar 8) (eC (.int 1))) (aCons (eVar 7) aNil)))) aNil))))
  (sIf (bOf (eBin kGt (eCallP F_sign [] (aCons (eVar 9) (aCons (eVar 6) aNil))) (eC (.int 0)))) (sAsg (.nm 6) (eVar 9)) sPass))))
  (sRet (eTup (aCons (eVar 6) (aCons (eVar 1) aNil)))))))))
def F_ended : FI := toF 10 S_ended
abbrev S_check_alike : SI :=
  (sSeq (sExpr (eCallP F_check_row [] (aCons (eVar 0) aNil)))
  (sIf (bTru (eB kAny (aCons (eComp (iSeq (eVar 0)) (.nm 1) [1] bYes (eBin kNe (eBin kIx (eVar 1) (eC (.int 0))) (eBin kIx (eBin kIx (eVar 0) (eC (.int 0))) (eC (.int 0))))) aNil))) (sRaise "Unlike") sPass))
def F_check_alike : FI := toF 2 S_check_alike
abbrev S_is_ahead : SI :=
  (sSeq (sAsg (.nm 2) (eCallP F_sign [] (aCons (eBin kIx (eVar 0) (eC (.int 0))) (aCons (eBin kIx (eVar 1) (eC (.int 0))) aNil))))
  (sRet (eOr (eBin kLt (eVar 2) (eC (.int 0))) (eAnd (eBin kEq (eVar 2) (eC (.int 0))) (eBin kLt (eCallP F_sign [] (aCons (eBin kIx (eVar 0) (eC (.int 1))) (aCons (eBin kIx (eVar 1) (eC (.int 1))) aNil))) (eC (.int 0)))))))
def F_is_ahead : FI := toF 3 S_is_ahead
abbrev S_bounced_at : SI :=
  (sSeq (sExpr (eCallP F_check_alike [] (aCons (eVar 0) aNil)))
  (sSeq (sExpr (eCallP F_check_moment [] (aCons (eVar 1) aNil)))
  (sSeq (sAsg (.nm 2) (eLstN aNil))
  (sSeq (sFor (iSeq (eVar 0)) (.nm 3) (sSeq (sAsg (.nm 4) (eTup (aCons (eCallP F_at_moment [] (aCons (eSl (eVar 3) (pSome (eC (.int 1))) pNone) (aCons (eVar 1) aNil))) (aCons (eBin kIx (eVar 3) (eC (.int 2))) aNil))))
  (sSeq (sAsg (.nm 5) (eC (.int 0)))
  (sSeq (sWhile (bAnd (bOf (eBin kLt (eVar 5) (eB kLen (aCons (eVar 2) aNil)))) (bTru (eCallP F_is_ahead [] (aCons (eBin kIx (eVar 2) (eVar 5)) (aCons (eVar 4) aNil))))) (sAug 5 (eC (.int 1))))
  (sExpr (eM mIns (eVar 2) (aCons (eVar 5) (aCons (eVar 4) aNil))))))))
  (sRet (eComp (iEnum' (eVar 2)) (.tp [(.nm 5), (.nm 4)]) [5, 4] bYes (eTup (aCons (eVar 5) (aCons (eVar 5) (aCons (eBin kIx (eVar 4) (eC (.int 0))) (aCons (eBin kIx (eVar 4) (eC (.int 1))) aNil)))))))))))
def F_bounced_at : FI := toF 6 S_bounced_at
abbrev S_met : SI :=
  (sSeq (sExpr (eCallP F_check_alike [] (aCons (eVar 0) aNil)))
  (sSeq (sExpr (eCallP F_check_moment [] (aCons (eVar 1) aNil)))
  (sSeq (sAsg (.nm 2) (eC (.int 0)))
  (sSeq (sFor (iEnum' (eVar 0)) (.tp [(.nm 3), (.nm 4)]) (sSeq (sAsg (.nm 5) (eCallP F_at_moment [] (aCons (eSl (eVar 4) (pSome (eC (.int 1))) pNone) (aCons (eVar 1) aNil))))
  (sAug 2 (eB kLen (aCons (eComp (iSeq (eSl (eVar 0) (pSome (eBin kAdd (eVar 3) (eC (.int 1)))) pNone)) (.nm 6) [6] (bOf (eBin kGe (eCallP F_sign [] (aCons (eVar 5) (aCons (eCallP F_at_moment [] (aCons (eSl (eVar 6) (pSome (eC (.int 1))) pNone) (aCons (eVar 1) aNil))) aNil))) (eC (.int 0)))) (eVar 6)) aNil)))))
  (sRet (eVar 2))))))
def F_met : FI := toF 7 S_met
abbrev S_last_met : SI :=
  (sSeq (sExpr (eCallP F_check_alike [] (aCons (eVar 0) aNil)))
  (sSeq (sAsg (.nm 1) (eC .non))
  (sSeq (sFor (iEnum' (eVar 0)) (.tp [(.nm 2), (.nm 3)]) (sFor (iSeq (eSl (eVar 0) (pSome (eBin kAdd (eVar 2) (eC (.int 1)))) pNone)) (.nm 4) (sSeq (sAsg (.nm 5) (eCallP F_crossing [] (aCons (eSl (eVar 3) (pSome (eC (.int 1))) pNone) (aCons (eSl (eVar 4) (pSome (eC (.int 1))) pNone) aNil))))
  (sIf (bAnd (bOf (eBin kIsNot (eVar 5) (eC .non))) (bOr (bOf (eBin kIs (eVar 1) (eC .non))) (bOf (eBin kGt (eCallP F_sign [] (aCons (eVar 5) (aCons (eVar 1) aNil))) (eC (.int 0)))))) (sAsg (.nm 1) (eVar 5)) sPass))))
  (sRet (eVar 1)))))
def F_last_met : FI := toF 6 S_last_met
abbrev S_law_made : SI :=
  (sSeq (sAsg (.nm 1) (eC (.int 0)))
  (sSeq (sFor (iSeq (eVar 0)) (.tp [(.nm 2), (.nm 3)]) (sFor (iSeq (eVar 3)) (.tp [(.nm 4), (.nm 5)]) (sAsg (.nm 1) (eBin kAdd (eVar 1) (eBin kDiv (eBin kMul (eBin kAdd (eBin kSub (eVar 5) (eVar 4)) (eC (.int 1))) (eBin kSub (eVar 5) (eVar 4))) (eC (.int 2)))))))
  (sRet (eVar 1))))
def F_law_made : FI := toF 6 S_law_made
abbrev S_law_with_unlike : SI :=
  (sRet (eIf (bOf (eBin kEq (eVar 0) (eC (.int 0)))) (eCallP F_bounced_at [] (aCons (eVar 1) (aCons (eC (.int 5)) aNil))) (eIf (bOf (eBin kEq (eVar 0) (eC (.int 1)))) (eCallP F_met [] (aCons (eVar 1) (aCons (eC (.int 5)) aNil))) (eCallP F_last_met [] (aCons (eVar 1) aNil)))))
def F_law_with_unlike : FI := toF 2 S_law_with_unlike
abbrev S_law_unlike_rows : SI :=
  (sSeq (sAsg (.nm 1) (eCompN (iRange1 (eBin kAdd (eC (.int 2)) (eBin kMod (eVar 0) (eC (.int 8))))) (.nm 2) [2] bYes (eTup (aCons (eC (.int 7)) (aCons (eTup (aCons (eVar 2) (aCons (eC (.int 1)) aNil))) (aCons (eTup (aCons (eBin kSub (eC (.int 3)) (eVar 2)) (aCons (eC (.int 1)) aNil))) aNil))))))
  (sSeq (sAsg (.nm 2) (eBin kMod (eBin kDiv (eVar 0) (eC (.int 8))) (eB kLen (aCons (eVar 1) aNil))))
  (sSeq (sSetI (eVar 1) (eVar 2) (eTup (aCons (eBin kAdd (eC (.int 8)) (eBin kMod (eVar 0) (eC (.int 50)))) (aCons (eBin kIx (eBin kIx (eVar 1) (eVar 2)) (eC (.int 1))) (aCons (eBin kIx (eBin kIx (eVar 1) (eVar 2)) (eC (.int 2))) aNil)))))
  (sRet (eLst (aCons (eVar 1) (aCons (eLst (aCons (eTup (aCons (eC (.int 1)) (aCons (eTup (aCons (eC (.int 0)) (aCons (eC (.int 1)) aNil))) (aCons (eTup (aCons (eC (.int 0)) (aCons (eC (.int 1)) aNil))) aNil)))) (aCons (eTup (aCons (eC (.int 60)) (aCons (eTup (aCons (eC (.int 1)) (aCons (eC (.int 1)) aNil))) (aCons (eTup (aCons (eC (.int 0)) (aCons (eC (.int 1)) aNil))) aNil)))) aNil))) aNil)))))))
def F_law_unlike_rows : FI := toF 3 S_law_unlike_rows
abbrev S_is_stretch : SI :=
  (sRet (eAnd (eB kIsi (aCons (eVar 0) (aCons (eC (.ty .tuple)) aNil))) (eAnd (eBin kEq (eB kLen (aCons (eVar 0) aNil)) (eC (.int 2))) (eAnd (eCallP F_is_number [] (aCons (eBin kIx (eVar 0) (eC (.int 0))) aNil)) (eCallP F_is_number [] (aCons (eBin kIx (eVar 0) (eC (.int 1))) aNil))))))
def F_is_stretch : FI := toF 1 S_is_stretch
abbrev S_is_event : SI :=
  (sSeq (sIf (bOr (bNot (bTru (eB kIsi (aCons (eVar 0) (aCons (eC (.ty .tuple)) aNil))))) (bOr (bOf (eBin kNe (eB kLen (aCons (eVar 0) aNil)) (eC (.int 2)))) (bNot (bTru (eCallP F_is_moment [] (aCons (eBin kIx (eVar 0) (eC (.int 0))) aNil)))))) (sRet (eC (.bl false))) sPass)
  (sRet (eAnd (eB kIsi (aCons (eBin kIx (eVar 0) (eC (.int 1))) (aCons (eC (.ty .list)) aNil))) (eB kAll (aCons (eComp (iSeq (eBin kIx (eVar 0) (eC (.int 1)))) (.nm 1) [1] bYes (eCallP F_is_stretch [] (aCons (eVar 1) aNil))) aNil)))))
def F_is_event : FI := toF 2 S_is_event
abbrev S_judged : SI :=
  (sSeq (sExpr (eCallP F_check_row [] (aCons (eVar 0) aNil)))
  (sSeq (sExpr (eCallP F_check_kind [] (aCons (eVar 1) aNil)))
  (sSeq (sExpr (eCallP F_check_moment [] (aCons (eVar 2) aNil)))
  (sSeq (sIf (bOr (bNot (bTru (eB kIsi (aCons (eVar 3) (aCons (eC (.ty .list)) aNil))))) (bOr (bOf (eBin kGt (eB kLen (aCons (eVar 3) aNil)) (eC (.int 60)))) (bNot (bTru (eB kAll (aCons (eComp (iSeq (eVar 3)) (.nm 5) [5] bYes (eCallP F_is_event [] (aCons (eVar 5) aNil))) aNil)))))) (sRaise "BadEvents") sPass)
  (sSeq (sAsg (.nm 4) (eCallP F_first_unlike [] (aCons (eVar 3) (aCons (eCallP F_told_events [] (aCons (eVar 0) (aCons (eVar 1) (aCons (eVar 2) aNil)))) aNil))))
  (sRet (eIf (bOf (eBin kIs (eVar 4) (eC .non))) (eBare "Right") (eMakeF "Wrong" F_Wrong___init__ (aCons (eVar 4) aNil)))))))))
def F_judged : FI := toF 6 S_judged
abbrev S_law_bent : SI :=
  (sSeq (sAsg (.nm 2) (eCompN (iSeq (eVar 0)) (.tp [(.nm 5), (.nm 6)]) [5, 6] bYes (eTup (aCons (eVar 5) (aCons (eB kList (aCons (eVar 6) aNil)) aNil)))))
  (sSeq (sPar2 3 4 (aCons (eBin kMod (eBin kDiv (eVar 1) (eC (.int 9))) (eB kMax2 (aCons (eC (.int 1)) (aCons (eB kLen (aCons (eVar 2) aNil)) aNil)))) (aCons (eBin kMod (eVar 1) (eC (.int 9))) aNil)))
  (sSeq (sIf (bOr (bOf (eBin kEq (eVar 4) (eC (.int 0)))) (bOf (eBin (kEmp true) (eVar 2) (eLst aNil)))) (sRet (eBin kAdd (eVar 2) (eLst (aCons (eTup (aCons (eTup (aCons (eBin kMod (eVar 1) (eC (.int 50))) (aCons (eC (.int 1)) aNil))) (aCons (eLst (aCons (eTup (aCons (eC (.int 0)) (aCons (eC (.int 1)) aNil))) aNil)) aNil))) aNil)))) sPass)
  (sSeq (sAsg (.tp [(.nm 5), (.nm 6)]) (eBin kIx (eVar 2) (eVar 3)))
  (sSeq (sIf (bOf (eBin kEq (eVar 4) (eC (.int 1)))) (sExpr (eM mPopAt (eVar 2) (aCons (eVar 3) aNil))) sPass)
  (sSeq (sIf (bOf (eBin kEq (eVar 4) (eC (.int 2)))) (sExpr (eM mIns (eVar 2) (aCons (eVar 3) (aCons (eBin kIx (eVar 2) (eVar 3)) aNil)))) sPass)
  (sSeq (sIf (bOf (eBin kEq (eVar 4) (eC (.int 3)))) (sSetI (eVar 2) (eVar 3) (eTup (aCons (eCallP F_law_sum [] (aCons (eVar 5) (aCons (eTup (aCons (eC (.int 1)) (aCons (eBin kAdd (eC (.int 1)) (eBin kMod (eBin kDiv (eVar 1) (eC (.int 90))) (eC (.int 5)))) aNil))) aNil))) (aCons (eVar 6) aNil)))) sPass)
  (sSeq (sIf (bOf (eBin kEq (eVar 4) (eC (.int 4)))) (sSetI (eVar 2) (eVar 3) (eTup (aCons (eVar 5) (aCons (eSl (eVar 6) (pSome (eC (.int 1))) pNone) aNil)))) sPass)
  (sSeq (sIf (bOf (eBin kEq (eVar 4) (eC (.int 5)))) (sSetI (eVar 2) (eVar 3) (eTup (aCons (eVar 5) (aCons (eBin kAdd (eVar 6) (eLst (aCons (eTup (aCons (eBin kMod (eBin kDiv (eVar 1) (eC (.int 90))) (eC (.int 9))) (aCons (eBin kMod (eBin kDiv (eVar 1) (eC (.int 810))) (eC (.int 9))) aNil))) aNil))) aNil)))) sPass)
  (sSeq (sIf (bOf (eBin kEq (eVar 4) (eC (.int 6)))) (sSetI (eVar 2) (eVar 3) (eTup (aCons (eVar 5) (aCons (eBin kAdd (eLst (aCons (eTup (aCons (eBin kIx (eBin kIx (eVar 6) (eC (.int 0))) (eC (.int 0))) (aCons (eBin kAdd (eBin kIx (eBin kIx (eVar 6) (eC (.int 0))) (eC (.int 1))) (eC (.int 1))) aNil))) aNil)) (eSl (eVar 6) (pSome (eC (.int 1))) pNone)) aNil)))) sPass)
  (sSeq (sIf (bOf (eBin kEq (eVar 4) (eC (.int 7)))) (sAsg (.nm 2) (eRev (eVar 2))) sPass)
  (sSeq (sIf (bOf (eBin kEq (eVar 4) (eC (.int 8)))) (sAsg (.nm 2) (eSl (eVar 2) pNone (pSome (eVar 3)))) sPass)
  (sRet (eVar 2))))))))))))))
def F_law_bent : FI := toF 7 S_law_bent
abbrev S_law_first_unlike : SI :=
  (sSeq (sFor (iRange1 (eB kMin2 (aCons (eB kLen (aCons (eVar 0) aNil)) (aCons (eB kLen (aCons (eVar 1) aNil)) aNil)))) (.nm 2) (sIf (bOf (eBin kNe (eBin kIx (eVar 0) (eVar 2)) (eBin kIx (eVar 1) (eVar 2)))) (sRet (eVar 2)) sPass))
  (sRet (eIf (bOf (eBin kEq (eB kLen (aCons (eVar 0) aNil)) (eB kLen (aCons (eVar 1) aNil)))) (eUn kNeg (eC (.int 1))) (eB kMin2 (aCons (eB kLen (aCons (eVar 0) aNil)) (aCons (eB kLen (aCons (eVar 1) aNil)) aNil))))))
def F_law_first_unlike : FI := toF 3 S_law_first_unlike
abbrev S_law_with_kind : SI :=
  (sSeq (sAsg (.nm 2) (eLst (aCons (eTup (aCons (eC (.int 1)) (aCons (eTup (aCons (eC (.int 0)) (aCons (eC (.int 1)) aNil))) (aCons (eTup (aCons (eC (.int 1)) (aCons (eC (.int 1)) aNil))) aNil)))) (aCons (eTup (aCons (eC (.int 2)) (aCons (eTup (aCons (eC (.int 1)) (aCons (eC (.int 2)) aNil))) (aCons (eTup (aCons (eC (.int 0)) (aCons (eC (.int 1)) aNil))) aNil)))) aNil))))
  (sRet (eIf (bOf (eBin kEq (eVar 0) (eC (.int 0)))) (eCallP F_judged [] (aCons (eVar 2) (aCons (eVar 1) (aCons (eC .non) (aCons (eC .non) aNil))))) (eMakeI "Story" F_Story___init__ (aCons (eVar 2) (aCons (eVar 1) aNil))))))
def F_law_with_kind : FI := toF 3 S_law_with_kind
abbrev S_law_with_events : SI :=
  (sSeq (sAsg (.nm 2) (eLst (aCons (eTup (aCons (eC (.int 1)) (aCons (eTup (aCons (eC (.int 0)) (aCons (eC (.int 1)) aNil))) (aCons (eTup (aCons (eC (.int 1)) (aCons (eC (.int 1)) aNil))) aNil)))) (aCons (eTup (aCons (eC (.int 2)) (aCons (eTup (aCons (eC (.int 1)) (aCons (eC (.int 1)) aNil))) (aCons (eTup (aCons (eC (.int 0)) (aCons (eC (.int 1)) aNil))) aNil)))) (aCons (eTup (aCons (eC (.int 3)) (aCons (eTup (aCons (eC (.int 2)) (aCons (eC (.int 1)) aNil))) (aCons (eTup (aCons (eUn kNeg (eC (.int 1))) (aCons (eC (.int 1)) aNil))) aNil)))) aNil)))))
  (sRet (eCallP F_judged [] (aCons (eVar 2) (aCons (eBin kIx (eTup (aCons (eC (.str "stick")) (aCons (eC (.str "bounce")) aNil))) (eVar 0)) (aCons (eTup (aCons (eC (.int 9)) (aCons (eC (.int 1)) aNil))) (aCons (eVar 1) aNil)))))))
def F_law_with_events : FI := toF 3 S_law_with_events
abbrev S_law_no_events : SI :=
  (sSeq (sAsg (.nm 1) (eTup (aCons (eTup (aCons (eC (.int 1)) (aCons (eC (.int 1)) aNil))) (aCons (eLst (aCons (eTup (aCons (eC (.int 0)) (aCons (eC (.int 2)) aNil))) aNil)) aNil))))
  (sSeq (sAsg (.nm 2) (eLst (aCons (eC .non) (aCons (eC (.int 5)) (aCons (eTup (aCons (eC (.int 1)) (aCons (eLst (aCons (eTup (aCons (eC (.int 0)) (aCons (eC (.int 1)) aNil))) aNil)) aNil))) (aCons (eTup (aCons (eTup (aCons (eC (.int 1)) (aCons (eC (.int 1)) aNil))) aNil)) (aCons (eTup (aCons (eTup (aCons (eC (.int 1)) (aCons (eC (.int 1)) aNil))) (aCons (eLst (aCons (eTup (aCons (eC (.int 0)) (aCons (eC (.int 1)) aNil))) aNil)) (aCons (eC (.int 0)) aNil)))) (aCons (eLst (aCons (eTup (aCons (eC (.int 1)) (aCons (eC (.int 1)) aNil))) (aCons (eLst (aCons (eTup (aCons (eC (.int 0)) (aCons (eC (.int 1)) aNil))) aNil)) aNil))) (aCons (eTup (aCons (eTup (aCons (eC (.int 2)) (aCons (eC (.int 2)) aNil))) (aCons (eLst (aCons (eTup (aCons (eC (.int 0)) (aCons (eC (.int 1)) aNil))) aNil)) aNil))) aNil)))))))))
  (sSeq (sAsg (.nm 2) (eBin kAdd (eVar 2) (eLst (aCons (eTup (aCons (eTup (aCons (eUn kNeg (eC (.int 1))) (aCons (eC (.int 1)) aNil))) (aCons (eLst (aCons (eTup (aCons (eC (.int 0)) (aCons (eC (.int 1)) aNil))) aNil)) aNil))) (aCons (eTup (aCons (eTup (aCons (eC (.int 1)) (aCons (eC (.int 1)) aNil))) (aCons (eTup (aCons (eTup (aCons (eC (.int 0)) (aCons (eC (.int 1)) aNil))) aNil)) aNil))) (aCons (eTup (aCons (eTup (aCons (eC (.int 1)) (aCons (eC (.int 1)) aNil))) (aCons (eLst (aCons (eLst (aCons (eC (.int 0)) (aCons (eC (.int 1)) aNil))) aNil)) aNil))) (aCons (eTup (aCons (eTup (aCons (eC (.int 1)) (aCons (eC (.int 1)) aNil))) (aCons (eLst (aCons (eTup (aCons (eC (.int 0)) aNil)) aNil)) aNil))) (aCons (eTup (aCons (eTup (aCons (eC (.int 1)) (aCons (eC (.int 1)) aNil))) (aCons (eLst (aCons (eTup (aCons (eC (.int 0)) (aCons (eC (.int 1)) (aCons (eC (.int 2)) aNil)))) aNil)) aNil))) aNil))))))))
  (sSeq (sAsg (.nm 2) (eBin kAdd (eVar 2) (eLst (aCons (eTup (aCons (eTup (aCons (eC (.int 1)) (aCons (eC (.int 1)) aNil))) (aCons (eLst (aCons (eTup (aCons (eC (.int 0)) (aCons (eC .non) aNil))) aNil)) aNil))) (aCons (eTup (aCons (eTup (aCons (eC (.int 1)) (aCons (eC (.int 1)) aNil))) (aCons (eLst (aCons (eTup (aCons (eC (.bl true)) (aCons (eC (.int 1)) aNil))) aNil)) aNil))) (aCons (eTup (aCons (eTup (aCons (eC (.int 1)) (aCons (eC (.int 1)) aNil))) (aCons (eLst (aCons (eTup (aCons (eC (.int 0)) (aCons (eC (.int 1)) aNil))) (aCons (eC (.str "x")) aNil))) aNil))) (aCons (eTup (aCons (eTup (aCons (eC (.int 1)) (aCons (eC (.int 1)) aNil))) (aCons (eC .non) aNil))) (aCons (eTup (aCons (eTup (aCons (eC (.int 1)) (aCons (eC (.int 0)) aNil))) (aCons (eLst aNil) aNil))) aNil))))))))
  (sSeq (sAsg (.nm 3) (eBin kRep (eLst (aCons (eVar 1) aNil)) (eC (.int 9))))
  (sSeq (sSetI (eVar 3) (eBin kMod (eVar 0) (eC (.int 9))) (eBin kIx (eVar 2) (eBin kMod (eBin kDiv (eVar 0) (eC (.int 9))) (eB kLen (aCons (eVar 2) aNil)))))
  (sSeq (sAsg (.nm 4) (eLst (aCons (eC .non) (aCons (eTup aNil) (aCons (eTup (aCons (eVar 1) aNil)) (aCons (eC (.str "events")) (aCons eDct (aCons (eC (.int 5)) (aCons (eBin kRep (eLst (aCons (eVar 1) aNil)) (eC (.int 61))) (aCons (eBin kRep (eLst (aCons (eVar 1) aNil)) (eBin kAdd (eC (.int 61)) (eBin kMod (eVar 0) (eC (.int 30))))) (aCons (eVar 3) aNil)))))))))))
  (sRet (eBin kAdd (eVar 4) (eComp (iSeq (eVar 2)) (.nm 5) [5] bYes (eLst (aCons (eVar 5) aNil))))))))))))
def F_law_no_events : FI := toF 6 S_law_no_events
abbrev S_law_story : SI :=
  (sSeq (sAsg (.nm 1) (eLst (aCons (eTup (aCons (eC (.int 1)) (aCons (eTup (aCons (eC (.int 0)) (aCons (eC (.int 1)) aNil))) (aCons (eTup (aCons (eC (.int 1)) (aCons (eC (.int 1)) aNil))) aNil)))) (aCons (eTup (aCons (eC (.int 2)) (aCons (eTup (aCons (eC (.int 2)) (aCons (eC (.int 1)) aNil))) (aCons (eTup (aCons (eUn kNeg (eC (.int 1))) (aCons (eC (.int 1)) aNil))) aNil)))) (aCons (eTup (aCons (eC (.int 3)) (aCons (eTup (aCons (eC (.int 9)) (aCons (eC (.int 1)) aNil))) (aCons (eTup (aCons (eC (.int 0)) (aCons (eC (.int 1)) aNil))) aNil)))) aNil)))))
  (sSeq (sAsg (.nm 2) (eMakeI "Story" F_Story___init__ (aCons (eVar 1) (aCons (eBin kIx (eTup (aCons (eC (.str "stick")) (aCons (eC (.str "bounce")) aNil))) (eBin kMod (eVar 0) (eC (.int 2)))) aNil))))
  (sSeq (sIf (bOf (eBin kGt (eVar 0) (eC (.int 1)))) (sExpr (eMethP "next" [("Story", F_Story_next)] (eVar 2) aNil)) sPass)
  (sRet (eVar 2)))))
def F_law_story : FI := toF 3 S_law_story
abbrev S_law_with_speed : SI :=
  (sRet (eMethP "push" [("Story", F_Story_push)] (eCallP F_law_story [] (aCons (eVar 0) aNil)) (aCons (eC (.int 2)) (aCons (eVar 1) aNil))))
def F_law_with_speed : FI := toF 2 S_law_with_speed
abbrev S_law_with_spot : SI :=
  (sRet (eIf (bOf (eBin kIs (eVar 1) (eC .non))) (eMethP "turn" [("Story", F_Story_turn)] (eCallP F_law_story [] (aCons (eC (.int 3)) aNil)) aNil) (eMethP "push" [("Story", F_Story_push)] (eCallP F_law_story [] (aCons (eC (.int 3)) aNil)) (aCons (eVar 1) (aCons (eTup (aCons (eC (.int 1)) (aCons (eC (.int 2)) aNil))) aNil)))))
def F_law_with_spot : FI := toF 2 S_law_with_spot
abbrev S_law_spots : SI :=
  (sRet (eLst (aCons (eC (.int 0)) (aCons (eC (.int 1)) (aCons (eC (.int 2)) (aCons (eC .non) aNil))))))
def F_law_spots : FI := toF 1 S_law_spots
abbrev S_mirrored : SI :=
  (sSeq (sExpr (eCallP F_check_row [] (aCons (eVar 0) aNil)))
  (sSeq (sAsg (.nm 1) (eComp (iSeq (eVar 0)) (.tp [(.nm 2), (.nm 3), (.nm 4)]) [2, 3, 4] bYes (eTup (aCons (eVar 2) (aCons (eTup (aCons (eUn kNeg (eBin kIx (eVar 3) (eC (.int 0)))) (aCons (eBin kIx (eVar 3) (eC (.int 1))) aNil))) (aCons (eTup (aCons (eUn kNeg (eBin kIx (eVar 4) (eC (.int 0)))) (aCons (eBin kIx (eVar 4) (eC (.int 1))) aNil))) aNil))))))
  (sRet (eRev (eVar 1)))))
def F_mirrored : FI := toF 5 S_mirrored
abbrev S_law_done : SI :=
  (sSeq (sAsg (.nm 3) (eMakeI "Story" F_Story___init__ (aCons (eVar 0) (aCons (eVar 1) aNil))))
  (sSeq (sTry ["BadShare", "BadRow", "BadKind", "BadMoment", "TooFar", "Crowded", "TooMany"] (some 4) (sExpr (eMethP "to" [("Story", F_Story_to)] (eVar 3) (aCons (eVar 2) aNil))) (sRet (eTup (aCons (eLst aNil) (aCons (eLst aNil) (aCons (eIf (bTru (eCallP F_law_alone [] (aCons (eVar 4) (aCons (eC (.int 10)) aNil)))) (eC (.int 10)) (eIf (bTru (eCallP F_law_alone [] (aCons (eVar 4) (aCons (eC (.int 11)) aNil)))) (eC (.int 11)) (eUn kNeg (eC (.int 1))))) aNil))))))
  (sRet (eTup (aCons (eBin kIx (eMethP "now" [("Story", F_Story_now)] (eVar 3) aNil) (eC (.int 1))) (aCons (eMethP "events" [("Story", F_Story_events)] (eVar 3) aNil) (aCons (eC (.int 0)) aNil)))))))
def F_law_done : FI := toF 5 S_law_done
abbrev S_law_turned : SI :=
  (sSeq (sAsg (.nm 1) (eIf (bOf (eBin (kEmp false) (eVar 0) (eLst aNil))) (eBin kIx (eBin kIx (eVar 0) (eUn kNeg (eC (.int 1)))) (eC (.int 1))) (eC (.int 0))))
  (sSeq (sAsg (.nm 2) (eLstN aNil))
  (sSeq (sFor (iSeq (eRev (eVar 0))) (.tp [(.nm 3), (.nm 4), (.nm 5), (.nm 6)]) (sExpr (eM mApp (eVar 2) (aCons (eTup (aCons (eBin kSub (eVar 1) (eVar 4)) (aCons (eBin kSub (eVar 1) (eVar 3)) (aCons (eTup (aCons (eUn kNeg (eBin kIx (eVar 5) (eC (.int 0)))) (aCons (eBin kIx (eVar 5) (eC (.int 1))) aNil))) (aCons (eTup (aCons (eUn kNeg (eBin kIx (eVar 6) (eC (.int 0)))) (aCons (eBin kIx (eVar 6) (eC (.int 1))) aNil))) aNil))))) aNil))))
  (sRet (eVar 2)))))
def F_law_turned : FI := toF 7 S_law_turned
abbrev S_told_row : SI :=
  (sSeq (sIf (bNot (bTru (eB kAll (aCons (eComp (iSeq (eVar 0)) (.tp [(.nm 1), (.nm 2), (.nm 3)]) [1, 2, 3] bYes (eAnd (eCallP F_is_mild [] (aCons (eVar 2) aNil)) (eCallP F_is_mild [] (aCons (eVar 3) aNil)))) aNil)))) (sRaise "TooFar") sPass)
  (sRet (eVar 0)))
def F_told_row : FI := toF 4 S_told_row
abbrev S_carried : SI :=
  (sSeq (sExpr (eCallP F_check_row [] (aCons (eVar 0) aNil)))
  (sSeq (sExpr (eCallP F_check_share [] (aCons (eVar 1) aNil)))
  (sRet (eCallP F_told_row [] (aCons (eComp (iSeq (eVar 0)) (.nm 2) [2] bYes (eTup (aCons (eBin kIx (eVar 2) (eC (.int 0))) (aCons (eBin kIx (eVar 2) (eC (.int 1))) (aCons (eCallP F_added [] (aCons (eBin kIx (eVar 2) (eC (.int 2))) (aCons (eVar 1) aNil))) aNil))))) aNil)))))
def F_carried : FI := toF 3 S_carried
abbrev S_law_far_off : SI :=
  (sSeq (sTry ["BadShare", "BadRow", "BadKind", "BadMoment", "TooFar", "Crowded", "TooMany"] (some 2) (sExpr (eCallP F_carried [] (aCons (eVar 0) (aCons (eVar 1) aNil)))) (sRet (eCallP F_law_alone [] (aCons (eVar 2) (aCons (eC (.int 12)) aNil)))))
  (sRet (eC (.bl false))))
def F_law_far_off : FI := toF 3 S_law_far_off
abbrev S_slowed : SI :=
  (sSeq (sExpr (eCallP F_check_row [] (aCons (eVar 0) aNil)))
  (sSeq (sExpr (eCallP F_check_share [] (aCons (eVar 1) aNil)))
  (sSeq (sIf (bOf (eBin kLe (eBin kIx (eVar 1) (eC (.int 0))) (eC (.int 0)))) (sRaise "BadShare") sPass)
  (sRet (eCallP F_told_row [] (aCons (eComp (iSeq (eVar 0)) (.nm 2) [2] bYes (eTup (aCons (eBin kIx (eVar 2) (eC (.int 0))) (aCons (eBin kIx (eVar 2) (eC (.int 1))) (aCons (eCallP F_product [] (aCons (eBin kIx (eVar 2) (eC (.int 2))) (aCons (eVar 1) aNil))) aNil))))) aNil))))))
def F_slowed : FI := toF 3 S_slowed
abbrev S_law_with_slowness : SI :=
  (sRet (eCallP F_slowed [] (aCons (eLst (aCons (eTup (aCons (eC (.int 1)) (aCons (eTup (aCons (eC (.int 0)) (aCons (eC (.int 1)) aNil))) (aCons (eTup (aCons (eC (.int 1000000)) (aCons (eC (.int 1)) aNil))) aNil)))) aNil)) (aCons (eVar 1) aNil))))
def F_law_with_slowness : FI := toF 2 S_law_with_slowness
abbrev S_law_not_above : SI :=
  (sRet (eLst (aCons (eTup (aCons (eC (.int 0)) (aCons (eC (.int 1)) aNil))) (aCons (eTup (aCons (eUn kNeg (eC (.int 1))) (aCons (eC (.int 1)) aNil))) (aCons (eTup (aCons (eBin kSub (eUn kNeg (eC (.int 1))) (eVar 0)) (aCons (eC (.int 1)) aNil))) (aCons (eTup (aCons (eUn kNeg (eC (.int 1))) (aCons (eBin kAdd (eC (.int 2)) (eVar 0)) aNil))) aNil))))))
def F_law_not_above : FI := toF 1 S_law_not_above
abbrev S_law_came : SI :=
  (sSeq (sTry ["BadRow", "BadKind", "BadBead", "BadMoment", "Crowded", "TooMany", "Unlike", "BadEvents", "BadText"] none (sSeq (sIf (bOf (eBin kEq (eBin kMod (eVar 2) (eC (.int 3))) (eC (.int 1)))) (sExpr (eMethP "next" [("Story", F_Story_next)] (eVar 0) aNil)) sPass)
  (sSeq (sIf (bOf (eBin kEq (eBin kMod (eVar 2) (eC (.int 3))) (eC (.int 2)))) (sSeq (sExpr (eMethP "to" [("Story", F_Story_to)] (eVar 0) (aCons (eCallP F_law_sum [] (aCons (eVar 1) (aCons (eTup (aCons (eC (.int 1)) (aCons (eC (.int 2)) aNil))) aNil))) aNil)))
  (sExpr (eMethP "back" [("Story", F_Story_back)] (eVar 0) aNil))) sPass)
  (sExpr (eMethP "to" [("Story", F_Story_to)] (eVar 0) (aCons (eVar 1) aNil))))) (sRet (eC (.bl false))))
  (sRet (eC (.bl true))))
def F_law_came : FI := toF 3 S_law_came
abbrev S_law_stick_right : SI :=
  (sSeq (sAsg (.nm 3) (eMakeI "Story" F_Story___init__ (aCons (eVar 0) (aCons (eC (.str "stick")) aNil))))
  (sSeq (sIf (bOr (bNot (bTru (eCallP F_law_came [] (aCons (eVar 3) (aCons (eVar 1) (aCons (eVar 2) aNil)))))) (bOf (eBin kNe (eMethP "now" [("Story", F_Story_now)] (eVar 3) aNil) (eTup (aCons (eVar 1) (aCons (eCallP F_stuck_at [] (aCons (eVar 0) (aCons (eVar 1) aNil))) aNil)))))) (sRet (eC (.bl false))) sPass)
  (sSeq (sPar2 4 5 (aCons (eBin kIx (eMethP "now" [("Story", F_Story_now)] (eVar 3) aNil) (eC (.int 1))) (aCons (eMethP "events" [("Story", F_Story_events)] (eVar 3) aNil) aNil)))
  (sSeq (sFor (iSeq (eVar 4)) (.tp [(.nm 6), (.nm 7), (.nm 8), (.nm 9)]) (sSeq (sIf (bAnd (bOf (eBin kLt (eVar 7) (eBin kSub (eB kLen (aCons (eVar 0) aNil)) (eC (.int 1))))) (bTru (eB (kIsI ["One", "Parted", "Right", "Run", "Story", "Wrong"] ["One", "Right", "Wrong"]) (aCons (eCallP F_together [] (aCons (eVar 0) (aCons (eVar 1) (aCons (eVar 6) (aCons (eBin kAdd (eVar 7) (eC (.int 1))) aNil))))) (aCons (eC (.gl "One")) aNil))))) (sRet (eC (.bl false))) sPass)
  (sIf (bAnd (bOf (eBin kLt (eVar 6) (eVar 7))) (bNot (bTru (eB (kIsI ["One", "Parted", "Right", "Run", "Story", "Wrong"] ["One", "Right", "Wrong"]) (aCons (eCallP F_together [] (aCons (eVar 0) (aCons (eVar 1) (aCons (eVar 6) (aCons (eVar 7) aNil))))) (aCons (eC (.gl "One")) aNil)))))) (sRet (eC (.bl false))) sPass)))
  (sSeq (sWhile (bOf (eBin kIsNot (eMethP "next" [("Story", F_Story_next)] (eVar 3) aNil) (eC .non))) (sSeq (sAsg (.nm 10) (eMethP "events" [("Story", F_Story_events)] (eVar 3) aNil))
  (sIf (bOf (eBin kNe (eSl (eVar 10) pNone (pSome (eB kLen (aCons (eVar 5) aNil)))) (eVar 5))) (sRet (eC (.bl false))) sPass)))
  (sSeq (sAsg (.nm 10) (eMethP "events" [("Story", F_Story_events)] (eVar 3) aNil))
  (sSeq (sIf (bOf (eBin kNe (eCallP F_ended [] (aCons (eVar 0) aNil)) (eTup (aCons (eIf (bOf (eBin (kEmp false) (eVar 10) (eLst aNil))) (eBin kIx (eBin kIx (eVar 10) (eUn kNeg (eC (.int 1)))) (eC (.int 0))) (eTup (aCons (eC (.int 0)) (aCons (eC (.int 1)) aNil)))) (aCons (eComp (iSeq (eBin kIx (eMethP "now" [("Story", F_Story_now)] (eVar 3) aNil) (eC (.int 1)))) (.nm 11) [11] bYes (eTup (aCons (eBin kIx (eVar 11) (eC (.int 0))) (aCons (eBin kIx (eVar 11) (eC (.int 1))) aNil)))) aNil))))) (sRet (eC (.bl false))) sPass)
  (sRet (eB (kIsI ["One", "Parted", "Right", "Run", "Story", "Wrong"] ["One", "Right", "Wrong"]) (aCons (eCallP F_judged [] (aCons (eVar 0) (aCons (eC (.str "stick")) (aCons (eVar 1) (aCons (eVar 5) aNil))))) (aCons (eC (.gl "Right")) aNil)))))))))))
def F_law_stick_right : FI := toF 12 S_law_stick_right
abbrev S_law_bounce_right : SI :=
  (sSeq (sAsg (.nm 3) (eMakeI "Story" F_Story___init__ (aCons (eVar 0) (aCons (eC (.str "bounce")) aNil))))
  (sSeq (sAsg (.nm 4) (eBin kEq (eB kMin1 (aCons (eComp (iSeq (eVar 0)) (.nm 14) [14] bYes (eBin kIx (eVar 14) (eC (.int 0)))) aNil)) (eB kMax1 (aCons (eComp (iSeq (eVar 0)) (.nm 14) [14] bYes (eBin kIx (eVar 14) (eC (.int 0)))) aNil))))
  (sSeq (sIf (bNot (bTru (eCallP F_law_came [] (aCons (eVar 3) (aCons (eVar 1) (aCons (eVar 2) aNil)))))) (sRet (eNot (eVar 4))) sPass)
  (sSeq (sAsg (.nm 5) (eMethP "events" [("Story", F_Story_events)] (eVar 3) aNil))
  (sSeq (sIf (bNot (bTru (eB (kIsI ["One", "Parted", "Right", "Run", "Story", "Wrong"] ["One", "Right", "Wrong"]) (aCons (eCallP F_judged [] (aCons (eVar 0) (aCons (eC (.str "bounce")) (aCons (eVar 1) (aCons (eVar 5) aNil))))) (aCons (eC (.gl "Right")) aNil))))) (sRet (eC (.bl false))) sPass)
  (sSeq (sAsg (.nm 6) (eCallP F_law_bent [] (aCons (eVar 5) (aCons (eBin kDiv (eVar 2) (eC (.int 3))) aNil))))
  (sSeq (sAsg (.nm 7) (eCallP F_law_first_unlike [] (aCons (eVar 6) (aCons (eVar 5) aNil))))
  (sSeq (sAsg (.nm 8) (eCallP F_judged [] (aCons (eVar 0) (aCons (eC (.str "bounce")) (aCons (eVar 1) (aCons (eVar 6) aNil))))))
  (sSeq (sIf (bAnd (bOf (eBin kGe (eVar 7) (eC (.int 0)))) (bOr (bNot (bTru (eB (kIsI ["One", "Parted", "Right", "Run", "Story", "Wrong"] ["One", "Right", "Wrong"]) (aCons (eVar 8) (aCons (eC (.gl "Wrong")) aNil))))) (bOf (eBin kNe (eFld [("Wrong", ["count"])] "count" (eVar 8)) (eVar 7))))) (sRet (eC (.bl false))) sPass)
  (sSeq (sIf (bNot (bTru (eVar 4))) (sRet (eC (.bl true))) sPass)
  (sSeq (sAsg (.nm 9) (eC (.int 0)))
  (sSeq (sFor (iSeq (eVar 5)) (.tp [(.nm 10), (.nm 11)]) (sFor (iSeq (eVar 11)) (.tp [(.nm 12), (.nm 13)]) (sAsg (.nm 9) (eBin kAdd (eVar 9) (eBin kDiv (eBin kMul (eBin kAdd (eBin kSub (eVar 13) (eVar 12)) (eC (.int 1))) (eBin kSub (eVar 13) (eVar 12))) (eC (.int 2)))))))
  (sSeq (sIf (bOr (bOf (eBin kNe (eMethP "now" [("Story", F_Story_now)] (eVar 3) aNil) (eTup (aCons (eVar 1) (aCons (eCallP F_bounced_at [] (aCons (eVar 0) (aCons (eVar 1) aNil))) aNil))))) (bOf (eBin kNe (eCallP F_met [] (aCons (eVar 0) (aCons (eVar 1) aNil))) (eVar 9)))) (sRet (eC (.bl false))) sPass)
  (sSeq (sAsg (.nm 13) (eCallP F_last_met [] (aCons (eVar 0) aNil)))
  (sRet (eOr (eOr (eBin kIs (eVar 13) (eC .non)) (eBin kGt (eCallP F_law_far [] (aCons (eVar 13) (aCons (eVar 1) aNil))) (eC (.int 0)))) (eBin kEq (eVar 9) (eCallP F_met [] (aCons (eVar 0) (aCons (eCallP F_law_sum [] (aCons (eVar 13) (aCons (eTup (aCons (eC (.int 9)) (aCons (eC (.int 1)) aNil))) aNil))) aNil))))))))))))))))))))
def F_law_bounce_right : FI := toF 15 S_law_bounce_right
abbrev S_law_ten : SI :=
  (sSeq (sPar2 1 2 (aCons (eIf (bOf (eBin (kEmp false) (eVar 0) (eLst aNil))) (eSl (eVar 0) pNone (pSome (eC (.int 63)))) (eLst (aCons (eC (.int 2)) aNil))) (aCons (eLstN aNil) aNil)))
  (sSeq (sFor (iRange1 (eC (.int 10))) (.nm 3) (sSeq (sAsg (.nm 4) (eBin kDiv (eCallP F_law_number [] (aCons (eBin kIx (eVar 1) (eBin kMod (eVar 3) (eB kLen (aCons (eVar 1) aNil)))) (aCons (eVar 3) (aCons (eB kSum (aCons (eVar 1) aNil)) aNil)))) (eC (.int 3))))
  (sExpr (eM mApp (eVar 2) (aCons (eTup (aCons (eBin kAdd (eC (.int 1)) (eBin kMod (eVar 4) (eC (.int 60)))) (aCons (eTup (aCons (eBin kAdd (eBin kSub (eBin kMul (eC (.int 4)) (eVar 3)) (eC (.int 20))) (eBin kMod (eBin kDiv (eVar 4) (eC (.int 60))) (eC (.int 3)))) (aCons (eC (.int 1)) aNil))) (aCons (eTup (aCons (eBin kSub (eBin kMod (eBin kDiv (eVar 4) (eC (.int 180))) (eC (.int 11))) (eC (.int 5))) (aCons (eC (.int 1)) aNil))) aNil)))) aNil)))))
  (sRet (eVar 2))))
def F_law_ten : FI := toF 5 S_law_ten
abbrev S_law_alike_told : SI :=
  (sRet (eLst (aCons (eCallP F_bounced_at [] (aCons (eVar 0) (aCons (eTup (aCons (eC (.int 7)) (aCons (eC (.int 3)) aNil))) aNil))) (aCons (eCallP F_met [] (aCons (eVar 0) (aCons (eTup (aCons (eC (.int 7)) (aCons (eC (.int 3)) aNil))) aNil))) (aCons (eCallP F_last_met [] (aCons (eVar 0) aNil)) aNil)))))
def F_law_alike_told : FI := toF 1 S_law_alike_told
abbrev S_law_deed : SI :=
  (sSeq (sIf (bOf (eBin kEq (eVar 1) (eC (.int 0)))) (sRet (eMethP "next" [("Story", F_Story_next)] (eVar 0) aNil)) sPass)
  (sSeq (sIf (bOf (eBin kEq (eVar 1) (eC (.int 1)))) (sRet (eMethP "to" [("Story", F_Story_to)] (eVar 0) (aCons (eTup (aCons (eBin kAdd (eC (.int 1)) (eVar 2)) (aCons (eC (.int 2)) aNil))) aNil))) sPass)
  (sSeq (sIf (bOf (eBin kEq (eVar 1) (eC (.int 2)))) (sRet (eMethP "back" [("Story", F_Story_back)] (eVar 0) aNil)) sPass)
  (sRet (eIf (bOf (eBin kEq (eVar 1) (eC (.int 3)))) (eMethP "turn" [("Story", F_Story_turn)] (eVar 0) aNil) (eMethP "push" [("Story", F_Story_push)] (eVar 0) (aCons (eC (.int 0)) (aCons (eTup (aCons (eVar 2) (aCons (eC (.int 3)) aNil))) aNil))))))))
def F_law_deed : FI := toF 3 S_law_deed
abbrev S_law_deeds : SI :=
  (sSeq (sAsg (.nm 2) (eLst aNil))
  (sSeq (sFor (iRange1 (eC (.int 6))) (.nm 3) (sSeq (sAsg (.nm 4) (eC (.str "refused")))
  (sSeq (sTry ["BadRow", "BadKind", "BadBead", "BadMoment", "Crowded", "TooMany", "Unlike", "BadEvents", "Together", "BadShare"] none (sAsg (.nm 4) (eCallP F_law_deed [] (aCons (eVar 0) (aCons (eBin kMod (eBin kDiv (eVar 1) (eBin kAdd (eC (.int 3)) (eBin kMul (eC (.int 2)) (eVar 3)))) (eC (.int 5))) (aCons (eVar 3) aNil))))) (sAsg (.nm 4) (eC (.str "refused"))))
  (sAsg (.nm 2) (eBin kAdd (eVar 2) (eLst (aCons (eVar 4) (aCons (eMethP "now" [("Story", F_Story_now)] (eVar 0) aNil) (aCons (eMethP "events" [("Story", F_Story_events)] (eVar 0) aNil) aNil)))))))))
  (sRet (eVar 2))))
def F_law_deeds : FI := toF 5 S_law_deeds
abbrev S_law_too_many : SI :=
  (sSeq (sAsg (.nm 1) (eC (.int 0)))
  (sSeq (sTry ["BadRow", "BadKind", "BadBead", "BadMoment", "Crowded", "TooMany", "Together", "BadShare", "Unlike"] (some 2) (sExpr (eMethP "next" [("Story", F_Story_next)] (eVar 0) aNil)) (sAsg (.nm 1) (eIf (bTru (eB (kIsE ["TooMany"]) (aCons (eVar 2) (aCons (eC (.gl "TooMany")) aNil)))) (eC (.int 1)) (eC (.int 2)))))
  (sRet (eBin kEq (eVar 1) (eC (.int 1))))))
def F_law_too_many : FI := toF 3 S_law_too_many
abbrev S_law_gone : SI :=
  (sSeq (sAsg (.nm 2) (eC (.bl true)))
  (sSeq (sTry ["BadRow", "BadKind", "BadBead", "BadMoment", "Crowded", "TooMany", "Together", "BadShare", "Unlike"] none (sExpr (eMethP "to" [("Story", F_Story_to)] (eVar 0) (aCons (eVar 1) aNil))) (sAsg (.nm 2) (eC (.bl false))))
  (sRet (eVar 2))))
def F_law_gone : FI := toF 3 S_law_gone
abbrev S_law_left : SI :=
  (sSeq (sPar2 2 3 (aCons (eComp (iSeq (eVar 1)) (.nm 11) [11] bYes (eBin kIx (eVar 11) (eC (.int 2)))) (aCons (eComp (iSeq (eVar 1)) (.nm 11) [11] bYes (eBin kIx (eVar 11) (eC (.int 3)))) aNil)))
  (sSeq (sFor (iRange1 (eC (.int 13))) (.nm 4) (sSeq (sAsg (.nm 5) (eCallP F_law_coming [] (aCons (eVar 2) (aCons (eVar 3) aNil))))
  (sSeq (sIf (bOf (eBin kIs (eVar 5) (eC .non))) (sRet (eVar 4)) sPass)
  (sSeq (sAsg (.tp [(.nm 6), (.nm 7)]) (eVar 5))
  (sSeq (sIf (bOf (eBin kLt (eVar 7) (eC (.int 0)))) (sRet (eC (.int 99))) sPass)
  (sSeq (sAsg (.nm 2) (eComp (iZip' (eVar 2) (eVar 3)) (.tp [(.nm 12), (.nm 13)]) [12, 13] bYes (eCallP F_law_sum [] (aCons (eVar 12) (aCons (eCallP F_law_by [] (aCons (eVar 13) (aCons (eVar 6) aNil))) aNil)))))
  (sSeq (sAsg (.nm 8) (eCallP F_law_sum [] (aCons (eCallP F_law_by [] (aCons (eBin kIx (eVar 3) (eVar 7)) (aCons (eTup (aCons (eBin kIx (eVar 0) (eVar 7)) (aCons (eC (.int 1)) aNil))) aNil))) (aCons (eCallP F_law_by [] (aCons (eBin kIx (eVar 3) (eBin kAdd (eVar 7) (eC (.int 1)))) (aCons (eTup (aCons (eBin kIx (eVar 0) (eBin kAdd (eVar 7) (eC (.int 1)))) (aCons (eC (.int 1)) aNil))) aNil))) aNil))))
  (sSeq (sAsg (.nm 9) (eCallP F_law_by [] (aCons (eVar 8) (aCons (eCallP F_law_low [] (aCons (eC (.int 2)) (aCons (eBin kAdd (eBin kIx (eVar 0) (eVar 7)) (eBin kIx (eVar 0) (eBin kAdd (eVar 7) (eC (.int 1))))) aNil))) aNil))))
  (sSeq (sAsg (.nm 10) (eLst (aCons (eCallP F_law_less [] (aCons (eVar 9) (aCons (eBin kIx (eVar 3) (eVar 7)) aNil))) (aCons (eCallP F_law_less [] (aCons (eVar 9) (aCons (eBin kIx (eVar 3) (eBin kAdd (eVar 7) (eC (.int 1)))) aNil))) aNil))))
  (sAsg (.nm 3) (eBin kAdd (eBin kAdd (eSl (eVar 3) pNone (pSome (eVar 7))) (eVar 10)) (eSl (eVar 3) (pSome (eBin kAdd (eVar 7) (eC (.int 2)))) pNone))))))))))))
  (sRet (eC (.int 13)))))
def F_law_left : FI := toF 14 S_law_left
abbrev S_law_between : SI :=
  (sSeq (sAsg (.nm 1) (eMakeI "Story" F_Story___init__ (aCons (eVar 0) (aCons (eC (.str "bounce")) aNil))))
  (sSeq (sFor (iRange1 (eC (.int 12))) (.nm 2) (sExpr (eMethP "next" [("Story", F_Story_next)] (eVar 1) aNil)))
  (sSeq (sIf (bNot (bTru (eCallP F_law_too_many [] (aCons (eVar 1) aNil)))) (sRet (eTup (aCons (eVar 1) (aCons (eC .non) aNil)))) sPass)
  (sSeq (sAsg (.tp [(.nm 3), (.nm 4)]) (eMethP "now" [("Story", F_Story_now)] (eVar 1) aNil))
  (sSeq (sAsg (.nm 5) (eCallP F_law_coming [] (aCons (eComp (iSeq (eVar 4)) (.nm 6) [6] bYes (eBin kIx (eVar 6) (eC (.int 2)))) (aCons (eComp (iSeq (eVar 4)) (.nm 6) [6] bYes (eBin kIx (eVar 6) (eC (.int 3)))) aNil))))
  (sRet (eTup (aCons (eVar 1) (aCons (eCallP F_law_sum [] (aCons (eVar 3) (aCons (eCallP F_law_by [] (aCons (eBin kIx (eVar 5) (eC (.int 0))) (aCons (eTup (aCons (eC (.int 1)) (aCons (eC (.int 2)) aNil))) aNil))) aNil))) aNil)))))))))
def F_law_between : FI := toF 7 S_law_between
abbrev S_law_counted_right : SI :=
  (sSeq (sPar2 2 3 (aCons (eComp (iSeq (eVar 0)) (.nm 13) [13] bYes (eBin kIx (eVar 13) (eC (.int 0)))) (aCons (eComp (iEnum' (eVar 0)) (.tp [(.nm 9), (.nm 13)]) [9, 13] bYes (eTup (aCons (eVar 9) (aCons (eVar 9) (aCons (eBin kIx (eVar 13) (eC (.int 1))) (aCons (eBin kIx (eVar 13) (eC (.int 2))) aNil)))))) aNil)))
  (sSeq (sIf (bOf (eBin kNe (eCallP F_law_left [] (aCons (eVar 2) (aCons (eVar 3) aNil))) (eC (.int 13)))) (sRet (eBin kEq (eBin kIx (eMethP "now" [("Story", F_Story_now)] (eMakeI "Story" F_Story___init__ (aCons (eVar 0) (aCons (eC (.str "bounce")) aNil))) aNil) (eC (.int 1))) (eVar 3))) sPass)
  (sSeq (sAsg (.tp [(.nm 4), (.nm 5)]) (eCallP F_law_between [] (aCons (eVar 0) aNil)))
  (sSeq (sIf (bOr (bOf (eBin kIs (eVar 5) (eC .non))) (bNot (bTru (eCallP F_law_gone [] (aCons (eVar 4) (aCons (eVar 5) aNil)))))) (sRet (eC (.bl false))) sPass)
  (sSeq (sExpr (eMethP "turn" [("Story", F_Story_turn)] (eVar 4) aNil))
  (sSeq (sIf (bNot (bTru (eCallP F_law_gone [] (aCons (eVar 4) (aCons (eCallP F_law_by [] (aCons (eVar 5) (aCons (eTup (aCons (eC (.int 2)) (aCons (eC (.int 1)) aNil))) aNil))) aNil))))) (sRet (eC (.bl false))) sPass)
  (sSeq (sAsg (.nm 6) (eComp (iSeq (eVar 3)) (.tp [(.nm 9), (.nm 10), (.nm 11), (.nm 12)]) [9, 10, 11, 12] bYes (eTup (aCons (eVar 9) (aCons (eVar 9) (aCons (eVar 11) (aCons (eCallP F_law_low [] (aCons (eUn kNeg (eBin kIx (eVar 12) (eC (.int 0)))) (aCons (eBin kIx (eVar 12) (eC (.int 1))) aNil))) aNil)))))))
  (sSeq (sIf (bOr (bOf (eBin kNe (eBin kIx (eMethP "now" [("Story", F_Story_now)] (eVar 4) aNil) (eC (.int 1))) (eVar 6))) (bOf (eBin kNe (eB kLen (aCons (eMethP "events" [("Story", F_Story_events)] (eVar 4) aNil) aNil)) (eC (.int 24))))) (sRet (eC (.bl false))) sPass)
  (sSeq (sAsg (.tp [(.nm 7), (.nm 5)]) (eCallP F_law_between [] (aCons (eVar 0) aNil)))
  (sSeq (sIf (bNot (bTru (eCallP F_law_gone [] (aCons (eVar 7) (aCons (eVar 5) aNil))))) (sRet (eC (.bl false))) sPass)
  (sSeq (sExpr (eMethP "push" [("Story", F_Story_push)] (eVar 7) (aCons (eBin kMod (eVar 1) (eC (.int 3))) (aCons (eTup (aCons (eBin kSub (eBin kMod (eBin kDiv (eVar 1) (eC (.int 3))) (eC (.int 7))) (eC (.int 3))) (aCons (eC (.int 1)) aNil))) aNil))))
  (sSeq (sAsg (.nm 8) (eCallP F_law_left [] (aCons (eVar 2) (aCons (eBin kIx (eMethP "now" [("Story", F_Story_now)] (eVar 7) aNil) (eC (.int 1))) aNil))))
  (sSeq (sIf (bOf (eBin kGt (eVar 8) (eC (.int 12)))) (sRet (eAnd (eNot (eCallP F_law_gone [] (aCons (eVar 7) (aCons (eTup (aCons (eBin kPow (eC (.int 10)) (eC (.int 30))) (aCons (eC (.int 1)) aNil))) aNil)))) (eBin kEq (eB kLen (aCons (eMethP "events" [("Story", F_Story_events)] (eVar 7) aNil) aNil)) (eC (.int 12))))) sPass)
  (sRet (eAnd (eCallP F_law_gone [] (aCons (eVar 7) (aCons (eTup (aCons (eBin kPow (eC (.int 10)) (eC (.int 30))) (aCons (eC (.int 1)) aNil))) aNil))) (eBin kEq (eB kLen (aCons (eMethP "events" [("Story", F_Story_events)] (eVar 7) aNil) aNil)) (eBin kAdd (eC (.int 12)) (eVar 8))))))))))))))))))
def F_law_counted_right : FI := toF 14 S_law_counted_right
abbrev S_law_sound : SI :=
  (sSeq (sAsg (.nm 1) (eLstN (aCons (eVar 0) aNil)))
  (sSeq (sWhile (bOf (eBin (kEmp false) (eVar 1) (eLst aNil))) (sSeq (sAsg (.nm 2) (eM mPop (eVar 1) aNil))
  (sIf (bOr (bTru (eB kIsi (aCons (eVar 2) (aCons (eC (.ty .list)) aNil)))) (bTru (eB kIsi (aCons (eVar 2) (aCons (eC (.ty .tuple)) aNil))))) (sExpr (eM mExt (eVar 1) (aCons (eB kList (aCons (eVar 2) aNil)) aNil))) (sIf (bOr (bTru (eB kIsi (aCons (eVar 2) (aCons (eC (.ty .bool)) aNil)))) (bAnd (bOf (eBin kIsNot (eVar 2) (eC .non))) (bAnd (bNot (bTru (eB kIsi (aCons (eVar 2) (aCons (eC (.ty .int)) aNil))))) (bNot (bTru (eB kIsi (aCons (eVar 2) (aCons (eC (.ty .str)) aNil)))))))) (sRet (eC (.bl false))) sPass))))
  (sRet (eC (.bl true)))))
def F_law_sound : FI := toF 3 S_law_sound
abbrev S_law_mild : SI :=
  (sSeq (sPar2 3 4 (aCons (eIf (bOf (eBin (kEmp false) (eVar 0) (eLst aNil))) (eSl (eVar 0) pNone (pSome (eC (.int 63)))) (eLst (aCons (eC (.int 4)) aNil))) (aCons (eLstN aNil) aNil)))
  (sSeq (sFor (iRange1 (eBin kAdd (eC (.int 2)) (eBin kMod (eB kAbs (aCons (eBin kAdd (eB kSum (aCons (eVar 3) aNil)) (eVar 1)) aNil)) (eC (.int 5))))) (.nm 5) (sSeq (sAsg (.nm 6) (eBin kDiv (eCallP F_law_number [] (aCons (eBin kIx (eVar 3) (eBin kMod (eBin kAdd (eVar 5) (eVar 1)) (eB kLen (aCons (eVar 3) aNil)))) (aCons (eBin kAdd (eVar 5) (eVar 1)) (aCons (eB kSum (aCons (eVar 3) aNil)) aNil)))) (eC (.int 3))))
  (sSeq (sPar2 7 8 (aCons (eCallP F_law_low [] (aCons (eBin kAdd (eBin kSub (eBin kMul (eC (.int 3)) (eVar 5)) (eC (.int 7))) (eBin kMod (eVar 6) (eC (.int 2)))) (aCons (eC (.int 2)) aNil))) (aCons (eCallP F_law_low [] (aCons (eBin kSub (eBin kMod (eBin kDiv (eVar 6) (eC (.int 2))) (eC (.int 9))) (eC (.int 4))) (aCons (eBin kAdd (eC (.int 1)) (eBin kMod (eBin kDiv (eVar 6) (eC (.int 18))) (eC (.int 3)))) aNil))) aNil)))
  (sExpr (eM mApp (eVar 4) (aCons (eTup (aCons (eIf (bTru (eVar 2)) (eC (.int 7)) (eBin kAdd (eC (.int 1)) (eBin kMod (eBin kDiv (eVar 6) (eC (.int 54))) (eC (.int 60))))) (aCons (eVar 7) (aCons (eVar 8) aNil)))) aNil))))))
  (sRet (eVar 4))))
def F_law_mild : FI := toF 9 S_law_mild
abbrev S_law_three : SI :=
  (sRet (eLst (aCons (eTup (aCons (eC (.int 60)) (aCons (eTup (aCons (eVar 1) (aCons (eC (.int 1)) aNil))) (aCons (eTup (aCons (eC (.int 1)) (aCons (eC (.int 1)) aNil))) aNil)))) (aCons (eTup (aCons (eC (.int 1)) (aCons (eTup (aCons (eBin kAdd (eVar 1) (eVar 0)) (aCons (eC (.int 1)) aNil))) (aCons (eTup (aCons (eC (.int 0)) (aCons (eC (.int 1)) aNil))) aNil)))) (aCons (eTup (aCons (eC (.int 60)) (aCons (eTup (aCons (eBin kAdd (eVar 1) (eC (.int 8))) (aCons (eC (.int 1)) aNil))) (aCons (eTup (aCons (eUn kNeg (eC (.int 1))) (aCons (eC (.int 1)) aNil))) aNil)))) aNil)))))
def F_law_three : FI := toF 2 S_law_three
abbrev S_law_back_right : SI :=
  (sSeq (sAsg (.nm 3) (eMethP "events" [("Story", F_Story_events)] (eVar 0) aNil))
  (sSeq (sFor (iRange1 (eVar 2)) (.nm 4) (sExpr (eMethP "back" [("Story", F_Story_back)] (eVar 0) aNil)))
  (sSeq (sIf (bOf (eBin kNe (eMethP "events" [("Story", F_Story_events)] (eVar 0) aNil) (eSl (eVar 3) pNone (pSome (eBin kSub (eVar 1) (eVar 2)))))) (sRet (eC (.bl false))) sPass)
  (sSeq (sFor (iRange1 (eVar 2)) (.nm 4) (sIf (bOf (eBin kNe (eCallP F_law_next [] (aCons (eVar 0) aNil)) (eBin kIx (eVar 3) (eBin kAdd (eBin kSub (eVar 1) (eVar 2)) (eVar 4))))) (sRet (eC (.bl false))) sPass))
  (sRet (eAnd (eCallP F_law_too_many [] (aCons (eVar 0) aNil)) (eBin kEq (eMethP "events" [("Story", F_Story_events)] (eVar 0) aNil) (eVar 3))))))))
def F_law_back_right : FI := toF 5 S_law_back_right
abbrev S_law_turned_right : SI :=
  (sSeq (sAsg (.tp [(.nm 1), (.nm 2)]) (eMethP "now" [("Story", F_Story_now)] (eVar 0) aNil))
  (sSeq (sAsg (.nm 3) (eCallP F_law_coming [] (aCons (eComp (iSeq (eVar 2)) (.nm 8) [8] bYes (eBin kIx (eVar 8) (eC (.int 2)))) (aCons (eComp (iSeq (eVar 2)) (.nm 8) [8] bYes (eBin kIx (eVar 8) (eC (.int 3)))) aNil))))
  (sSeq (sAsg (.nm 4) (eCallP F_law_sum [] (aCons (eVar 1) (aCons (eCallP F_law_by [] (aCons (eBin kIx (eVar 3) (eC (.int 0))) (aCons (eTup (aCons (eC (.int 1)) (aCons (eC (.int 2)) aNil))) aNil))) aNil))))
  (sSeq (sExpr (eMethP "to" [("Story", F_Story_to)] (eVar 0) (aCons (eVar 4) aNil)))
  (sSeq (sExpr (eMethP "turn" [("Story", F_Story_turn)] (eVar 0) aNil))
  (sSeq (sPar2 5 6 (aCons (eCallP F_law_by [] (aCons (eVar 4) (aCons (eTup (aCons (eC (.int 2)) (aCons (eC (.int 1)) aNil))) aNil))) (aCons (eLstN aNil) aNil)))
  (sSeq (sFor (iSeq (eTup (aCons (eVar 5) (aCons (eTup (aCons (eC (.int 0)) (aCons (eC (.int 1)) aNil))) (aCons (eVar 5) (aCons (eVar 4) (aCons (eVar 5) aNil))))))) (.nm 7) (sSeq (sExpr (eMethP "to" [("Story", F_Story_to)] (eVar 0) (aCons (eVar 7) aNil)))
  (sExpr (eM mApp (eVar 6) (aCons (eB kLen (aCons (eMethP "events" [("Story", F_Story_events)] (eVar 0) aNil) aNil)) aNil)))))
  (sRet (eBin kEq (eVar 6) (eLst (aCons (eC (.int 24)) (aCons (eC (.int 0)) (aCons (eC (.int 24)) (aCons (eC (.int 12)) (aCons (eC (.int 24)) aNil)))))))))))))))
def F_law_turned_right : FI := toF 9 S_law_turned_right
abbrev S_law_fields : SI :=
  (sSeq (sIf (bTru (eB (kIsI ["Meet", "Never", "One", "Parted", "Right", "Run", "Wrong"] ["Meet", "One", "Parted", "Right", "Wrong"]) (aCons (eVar 0) (aCons (eC (.gl "Meet")) aNil)))) (sRet (eLst (aCons (eFld [("Run", ["moment"]), ("Meet", ["moment"])] "moment" (eVar 0)) aNil))) sPass)
  (sSeq (sIf (bTru (eB (kIsI ["Meet", "Never", "One", "Parted", "Right", "Run", "Wrong"] ["Meet", "One", "Parted", "Right", "Wrong"]) (aCons (eVar 0) (aCons (eC (.gl "One")) aNil)))) (sRet (eLst (aCons (eFld [("One", ["first"])] "first" (eVar 0)) (aCons (eFld [("One", ["last"])] "last" (eVar 0)) aNil)))) sPass)
  (sSeq (sIf (bTru (eB (kIsI ["Meet", "Never", "One", "Parted", "Right", "Run", "Wrong"] ["Meet", "One", "Parted", "Right", "Wrong"]) (aCons (eVar 0) (aCons (eC (.gl "Parted")) aNil)))) (sRet (eLst (aCons (eFld [("Parted", ["cut"])] "cut" (eVar 0)) aNil))) sPass)
  (sRet (eIf (bTru (eB (kIsI ["Meet", "Never", "One", "Parted", "Right", "Run", "Wrong"] ["Meet", "One", "Parted", "Right", "Wrong"]) (aCons (eVar 0) (aCons (eC (.gl "Wrong")) aNil)))) (eLst (aCons (eFld [("Wrong", ["count"])] "count" (eVar 0)) aNil)) (eLst aNil))))))
def F_law_fields : FI := toF 1 S_law_fields
abbrev S_law_twos_right : SI :=
  (sSeq (sAsg (.nm 0) (eLst (aCons (eTup (aCons (eC (.int 1)) (aCons (eTup (aCons (eC (.int 0)) (aCons (eC (.int 1)) aNil))) (aCons (eTup (aCons (eC (.int 1)) (aCons (eC (.int 1)) aNil))) aNil)))) (aCons (eTup (aCons (eC (.int 1)) (aCons (eTup (aCons (eC (.int 1)) (aCons (eC (.int 1)) aNil))) (aCons (eTup (aCons (eC (.int 0)) (aCons (eC (.int 1)) aNil))) aNil)))) aNil))))
  (sSeq (sAsg (.nm 1) (eLst (aCons (eCallP F_pair_meets [] (aCons (eVar 0) (aCons (eC (.int 0)) aNil))) (aCons (eCallP F_together [] (aCons (eVar 0) (aCons (eTup (aCons (eC (.int 2)) (aCons (eC (.int 1)) aNil))) (aCons (eC (.int 0)) (aCons (eC (.int 1)) aNil))))) (aCons (eCallP F_together [] (aCons (eVar 0) (aCons (eTup (aCons (eC (.int 1)) (aCons (eC (.int 2)) aNil))) (aCons (eC (.int 0)) (aCons (eC (.int 1)) aNil))))) aNil)))))
  (sSeq (sAsg (.nm 1) (eBin kAdd (eVar 1) (eLst (aCons (eCallP F_judged [] (aCons (eVar 0) (aCons (eC (.str "stick")) (aCons (eTup (aCons (eC (.int 2)) (aCons (eC (.int 1)) aNil))) (aCons (eLst aNil) aNil))))) (aCons (eCallP F_judged [] (aCons (eVar 0) (aCons (eC (.str "stick")) (aCons (eTup (aCons (eC (.int 1)) (aCons (eC (.int 2)) aNil))) (aCons (eLst aNil) aNil))))) aNil)))))
  (sSeq (sAsg (.nm 2) (eLst (aCons (eB (kIsI ["Meet", "Never", "One", "Parted", "Right", "Run", "Wrong"] ["Meet", "One", "Parted", "Right", "Wrong"]) (aCons (eBin kIx (eVar 1) (eC (.int 0))) (aCons (eC (.gl "Meet")) aNil))) (aCons (eB (kIsI ["Meet", "Never", "One", "Parted", "Right", "Run", "Wrong"] ["Meet", "One", "Parted", "Right", "Wrong"]) (aCons (eBin kIx (eVar 1) (eC (.int 1))) (aCons (eC (.gl "One")) aNil))) (aCons (eB (kIsI ["Meet", "Never", "One", "Parted", "Right", "Run", "Wrong"] ["Meet", "One", "Parted", "Right", "Wrong"]) (aCons (eBin kIx (eVar 1) (eC (.int 2))) (aCons (eC (.gl "Parted")) aNil))) aNil)))))
  (sSeq (sIf (bOf (eBin kNe (eBin kAdd (eVar 2) (eLst (aCons (eB (kIsI ["Meet", "Never", "One", "Parted", "Right", "Run", "Wrong"] ["Meet", "One", "Parted", "Right", "Wrong"]) (aCons (eBin kIx (eVar 1) (eC (.int 3))) (aCons (eC (.gl "Wrong")) aNil))) (aCons (eB (kIsI ["Meet", "Never", "One", "Parted", "Right", "Run", "Wrong"] ["Meet", "One", "Parted", "Right", "Wrong"]) (aCons (eBin kIx (eVar 1) (eC (.int 4))) (aCons (eC (.gl "Right")) aNil))) aNil)))) (eBin kRep (eLst (aCons (eC (.bl true)) aNil)) (eC (.int 5))))) (sRet (eC (.bl false))) sPass)
  (sSeq (sIf (bNot (bTru (eB kAll (aCons (eComp (iSeq (eVar 1)) (.nm 4) [4] bYes (eCallP F_law_sound [] (aCons (eCallP F_law_fields [] (aCons (eVar 4) aNil)) aNil))) aNil)))) (sRet (eC (.bl false))) sPass)
  (sSeq (sAsg (.nm 3) (eLst (aCons (eCallP F_share [] (aCons (eC (.int 2)) (aCons (eC (.int 2)) aNil))) (aCons (eCallP F_share [] (aCons (eC (.int 0)) (aCons (eC (.int 5)) aNil))) (aCons (eCallP F_plus [] (aCons (eTup (aCons (eC (.int 1)) (aCons (eC (.int 1)) aNil))) (aCons (eTup (aCons (eC (.int 0)) (aCons (eC (.int 1)) aNil))) aNil))) (aCons (eCallP F_minus [] (aCons (eTup (aCons (eC (.int 1)) (aCons (eC (.int 1)) aNil))) (aCons (eTup (aCons (eC (.int 1)) (aCons (eC (.int 1)) aNil))) aNil))) aNil))))))
  (sSeq (sAsg (.nm 3) (eBin kAdd (eVar 3) (eLst (aCons (eCallP F_times [] (aCons (eTup (aCons (eC (.int 1)) (aCons (eC (.int 1)) aNil))) (aCons (eTup (aCons (eC (.int 1)) (aCons (eC (.int 1)) aNil))) aNil))) aNil))))
  (sSeq (sAsg (.nm 3) (eBin kAdd (eVar 3) (eLst (aCons (eCallP F_over [] (aCons (eTup (aCons (eC (.int 0)) (aCons (eC (.int 1)) aNil))) (aCons (eTup (aCons (eC (.int 1)) (aCons (eC (.int 1)) aNil))) aNil))) (aCons (eCallP F_order [] (aCons (eTup (aCons (eC (.int 1)) (aCons (eC (.int 1)) aNil))) (aCons (eTup (aCons (eC (.int 0)) (aCons (eC (.int 1)) aNil))) aNil))) (aCons (eCallP F_order [] (aCons (eTup (aCons (eC (.int 1)) (aCons (eC (.int 1)) aNil))) (aCons (eTup (aCons (eC (.int 1)) (aCons (eC (.int 1)) aNil))) aNil))) aNil))))))
  (sSeq (sAsg (.nm 3) (eBin kAdd (eVar 3) (eLst (aCons (eCallP F_order [] (aCons (eTup (aCons (eC (.int 0)) (aCons (eC (.int 1)) aNil))) (aCons (eTup (aCons (eC (.int 1)) (aCons (eC (.int 1)) aNil))) aNil))) aNil))))
  (sRet (eCallP F_law_sound [] (aCons (eBin kAdd (eVar 3) (eLst (aCons (eCallP F_bounced [] (aCons (eC (.int 1)) (aCons (eC (.int 1)) (aCons (eTup (aCons (eC (.int 1)) (aCons (eC (.int 1)) aNil))) (aCons (eTup (aCons (eC (.int 0)) (aCons (eC (.int 1)) aNil))) aNil))))) (aCons (eCallP F_stuck [] (aCons (eLst (aCons (eC (.int 1)) (aCons (eC (.int 1)) aNil))) (aCons (eLst (aCons (eTup (aCons (eC (.int 1)) (aCons (eC (.int 1)) aNil))) (aCons (eTup (aCons (eC (.int 1)) (aCons (eC (.int 1)) aNil))) aNil))) aNil))) aNil)))) aNil)))))))))))))
def F_law_twos_right : FI := toF 5 S_law_twos_right
abbrev S_law_door_right : SI :=
  (sSeq (sAsg (.nm 3) (eB kListN (aCons (eVar 1) aNil)))
  (sSeq (sAsg (.nm 4) (eCallV [] 0 (aCons (eVar 3) aNil)))
  (sSeq (sIf (bOf (eBin kNe (eVar 3) (eVar 1))) (sRet (eC (.bl false))) sPass)
  (sSeq (sAsg (.nm 5) (eB kList (aCons (eVar 4) aNil)))
  (sSeq (sExpr (eM mApp (eVar 4) (aCons (eC (.int 99)) aNil)))
  (sSeq (sExpr (eM mRev (eVar 4) aNil))
  (sSeq (sIf (bOf (eBin kNe (eCallV [] 0 (aCons (eVar 3) aNil)) (eVar 5))) (sRet (eC (.bl false))) sPass)
  (sSeq (sFor (iEnum' (eVar 2)) (.tp [(.nm 6), (.nm 7)]) (sSetI (eVar 3) (eVar 6) (eVar 7)))
  (sSeq (sIf (bOr (bOf (eBin kNe (eCallV [] 0 (aCons (eVar 3) aNil)) (eCallV [] 0 (aCons (eB kList (aCons (eVar 2) aNil)) aNil)))) (bOf (eBin kNe (eVar 3) (eVar 2)))) (sRet (eC (.bl false))) sPass)
  (sSeq (sFor (iEnum' (eVar 1)) (.tp [(.nm 6), (.nm 7)]) (sSetI (eVar 3) (eVar 6) (eVar 7)))
  (sRet (eAnd (eBin kEq (eCallV [] 0 (aCons (eVar 3) aNil)) (eVar 5)) (eBin kEq (eVar 3) (eVar 1))))))))))))))
def F_law_door_right : FI := toF 8 S_law_door_right
abbrev S_law_w : SI :=
  (sRet (eTup (aCons (eVar 0) (aCons (eC (.int 1)) aNil))))
def F_law_w : FI := toF 1 S_law_w
abbrev S_law_sticking_right : SI :=
  (sSeq (sPar3 1 2 3 (aCons (eMakeI "Story" F_Story___init__ (aCons (eCallP F_law_row [] (aCons (eVar 0) aNil)) (aCons (eC (.str "stick")) aNil))) (aCons (eTup (aCons (eTup (aCons (eC (.int 2)) (aCons (eC (.int 1)) aNil))) (aCons (eLst (aCons (eTup (aCons (eC (.int 0)) (aCons (eC (.int 1)) aNil))) aNil)) aNil))) (aCons (eTup (aCons (eC (.int 1)) (aCons (eC (.int 1)) aNil))) aNil))))
  (sSeq (sAsg (.nm 4) (eLst (aCons (eTup (aCons (eC (.int 0)) (aCons (eC (.int 0)) (aCons (eCallP F_law_w [] (aCons (eVar 0) aNil)) (aCons (eVar 3) aNil))))) (aCons (eTup (aCons (eC (.int 1)) (aCons (eC (.int 1)) (aCons (eCallP F_law_w [] (aCons (eBin kAdd (eVar 0) (eC (.int 2))) aNil)) (aCons (eTup (aCons (eC (.int 0)) (aCons (eC (.int 1)) aNil))) aNil))))) (aCons (eTup (aCons (eC (.int 2)) (aCons (eC (.int 2)) (aCons (eCallP F_law_w [] (aCons (eBin kAdd (eVar 0) (eC (.int 5))) aNil)) (aCons (eTup (aCons (eC (.int 0)) (aCons (eC (.int 1)) aNil))) aNil))))) aNil)))))
  (sSeq (sIf (bOr (bOf (eBin kNe (eMethP "now" [("Story", F_Story_now)] (eVar 1) aNil) (eTup (aCons (eTup (aCons (eC (.int 0)) (aCons (eC (.int 1)) aNil))) (aCons (eVar 4) aNil))))) (bOf (eBin kNe (eMethP "next" [("Story", F_Story_next)] (eVar 1) aNil) (eVar 2)))) (sRet (eC (.bl false))) sPass)
  (sSeq (sIf (bOf (eBin kNe (eMethP "now" [("Story", F_Story_now)] (eVar 1) aNil) (eTup (aCons (eTup (aCons (eC (.int 2)) (aCons (eC (.int 1)) aNil))) (aCons (eLst (aCons (eTup (aCons (eC (.int 0)) (aCons (eC (.int 1)) (aCons (eCallP F_law_w [] (aCons (eBin kAdd (eVar 0) (eC (.int 2))) aNil)) (aCons (eTup (aCons (eC (.int 1)) (aCons (eC (.int 2)) aNil))) aNil))))) (aCons (eBin kIx (eVar 4) (eC (.int 2))) aNil))) aNil))))) (sRet (eC (.bl false))) sPass)
  (sSeq (sIf (bOf (eBin kNe (eLst (aCons (eMethP "next" [("Story", F_Story_next)] (eVar 1) aNil) (aCons (eMethP "now" [("Story", F_Story_now)] (eVar 1) aNil) aNil))) (eLst (aCons (eTup (aCons (eTup (aCons (eC (.int 8)) (aCons (eC (.int 1)) aNil))) (aCons (eLst (aCons (eTup (aCons (eC (.int 0)) (aCons (eC (.int 2)) aNil))) aNil)) aNil))) (aCons (eTup (aCons (eTup (aCons (eC (.int 8)) (aCons (eC (.int 1)) aNil))) (aCons (eLst (aCons (eTup (aCons (eC (.int 0)) (aCons (eC (.int 2)) (aCons (eCallP F_law_w [] (aCons (eBin kAdd (eVar 0) (eC (.int 5))) aNil)) (aCons (eTup (aCons (eC (.int 1)) (aCons (eC (.int 3)) aNil))) aNil))))) aNil)) aNil))) aNil))))) (sRet (eC (.bl false))) sPass)
  (sSeq (sIf (bOf (eBin kNe (eLst (aCons (eMethP "next" [("Story", F_Story_next)] (eVar 1) aNil) (aCons (eBin kIx (eMethP "now" [("Story", F_Story_now)] (eVar 1) aNil) (eC (.int 0))) aNil))) (eLst (aCons (eC .non) (aCons (eTup (aCons (eC (.int 8)) (aCons (eC (.int 1)) aNil))) aNil))))) (sRet (eC (.bl false))) sPass)
  (sSeq (sIf (bOf (eBin kNe (eLst (aCons (eMethP "back" [("Story", F_Story_back)] (eVar 1) aNil) (aCons (eMethP "events" [("Story", F_Story_events)] (eVar 1) aNil) (aCons (eMethP "back" [("Story", F_Story_back)] (eVar 1) aNil) aNil)))) (eLst (aCons (eTup (aCons (eC (.int 2)) (aCons (eC (.int 1)) aNil))) (aCons (eLst (aCons (eVar 2) aNil)) (aCons (eTup (aCons (eC (.int 0)) (aCons (eC (.int 1)) aNil))) aNil)))))) (sRet (eC (.bl false))) sPass)
  (sSeq (sIf (bOf (eBin kNe (eLst (aCons (eMethP "back" [("Story", F_Story_back)] (eVar 1) aNil) (aCons (eMethP "events" [("Story", F_Story_events)] (eVar 1) aNil) aNil))) (eLst (aCons (eTup (aCons (eC (.int 0)) (aCons (eC (.int 1)) aNil))) (aCons (eLst aNil) aNil))))) (sRet (eC (.bl false))) sPass)
  (sSeq (sExpr (eMethP "to" [("Story", F_Story_to)] (eVar 1) (aCons (eTup (aCons (eC (.int 3)) (aCons (eC (.int 1)) aNil))) aNil)))
  (sSeq (sExpr (eMethP "push" [("Story", F_Story_push)] (eVar 1) (aCons (eC (.int 1)) (aCons (eTup (aCons (eC (.int 0)) (aCons (eC (.int 1)) aNil))) aNil))))
  (sSeq (sIf (bOr (bOf (eBin kNe (eMethP "now" [("Story", F_Story_now)] (eVar 1) aNil) (eTup (aCons (eTup (aCons (eC (.int 3)) (aCons (eC (.int 1)) aNil))) (aCons (eLst (aCons (eTup (aCons (eC (.int 0)) (aCons (eC (.int 1)) (aCons (eTup (aCons (eBin kAdd (eBin kMul (eC (.int 2)) (eVar 0)) (eC (.int 5))) (aCons (eC (.int 2)) aNil))) (aCons (eTup (aCons (eC (.int 0)) (aCons (eC (.int 1)) aNil))) aNil))))) (aCons (eBin kIx (eVar 4) (eC (.int 2))) aNil))) aNil))))) (bOf (eBin kIsNot (eMethP "next" [("Story", F_Story_next)] (eVar 1) aNil) (eC .non)))) (sRet (eC (.bl false))) sPass)
  (sSeq (sExpr (eMethP "to" [("Story", F_Story_to)] (eVar 1) (aCons (eTup (aCons (eC (.int 1)) (aCons (eC (.int 1)) aNil))) aNil)))
  (sSeq (sExpr (eMethP "to" [("Story", F_Story_to)] (eVar 1) (aCons (eTup (aCons (eC (.int 9)) (aCons (eC (.int 1)) aNil))) aNil)))
  (sSeq (sIf (bOr (bOf (eBin kNe (eMethP "events" [("Story", F_Story_events)] (eVar 1) aNil) (eLst (aCons (eVar 2) aNil)))) (bOf (eBin kNe (eBin kIx (eBin kIx (eMethP "now" [("Story", F_Story_now)] (eVar 1) aNil) (eC (.int 1))) (eC (.int 0))) (eTup (aCons (eC (.int 0)) (aCons (eC (.int 1)) (aCons (eTup (aCons (eBin kAdd (eBin kMul (eC (.int 2)) (eVar 0)) (eC (.int 5))) (aCons (eC (.int 2)) aNil))) (aCons (eTup (aCons (eC (.int 0)) (aCons (eC (.int 1)) aNil))) aNil)))))))) (sRet (eC (.bl false))) sPass)
  (sSeq (sExpr (eMethP "to" [("Story", F_Story_to)] (eVar 1) (aCons (eTup (aCons (eC (.int 3)) (aCons (eC (.int 1)) aNil))) aNil)))
  (sSeq (sExpr (eMethP "push" [("Story", F_Story_push)] (eVar 1) (aCons (eC (.int 0)) (aCons (eTup (aCons (eC (.int 2)) (aCons (eC (.int 1)) aNil))) aNil))))
  (sSeq (sIf (bOf (eBin kNe (eMethP "next" [("Story", F_Story_next)] (eVar 1) aNil) (eTup (aCons (eTup (aCons (eC (.int 17)) (aCons (eC (.int 4)) aNil))) (aCons (eLst (aCons (eTup (aCons (eC (.int 0)) (aCons (eC (.int 2)) aNil))) aNil)) aNil))))) (sRet (eC (.bl false))) sPass)
  (sSeq (sExpr (eMethP "to" [("Story", F_Story_to)] (eVar 1) (aCons (eTup (aCons (eC (.int 1)) (aCons (eC (.int 1)) aNil))) aNil)))
  (sSeq (sExpr (eMethP "push" [("Story", F_Story_push)] (eVar 1) (aCons (eC (.int 2)) (aCons (eVar 3) aNil))))
  (sSeq (sIf (bOf (eBin kNe (eLst (aCons (eMethP "next" [("Story", F_Story_next)] (eVar 1) aNil) (aCons (eMethP "next" [("Story", F_Story_next)] (eVar 1) aNil) (aCons (eMethP "events" [("Story", F_Story_events)] (eVar 1) aNil) aNil)))) (eLst (aCons (eVar 2) (aCons (eC .non) (aCons (eLst (aCons (eVar 2) aNil)) aNil)))))) (sRet (eC (.bl false))) sPass)
  (sRet (eBin kEq (eBin kIx (eBin kIx (eBin kIx (eMethP "now" [("Story", F_Story_now)] (eVar 1) aNil) (eC (.int 1))) (eC (.int 1))) (eC (.int 2))) (eCallP F_law_w [] (aCons (eBin kAdd (eVar 0) (eC (.int 6))) aNil))))))))))))))))))))))))
def F_law_sticking_right : FI := toF 5 S_law_sticking_right
end
end Bd

namespace Bd
noncomputable section
open PySem L2
/-! ## shares as Rat -/
def encQ (q : Rat) : Val := .tup [.int q.num, .int (q.den : Int)]
@[simp] theorem flat_encQ {q : Rat} : flat (encQ q) = true := by simp [encQ]
theorem toD_encQ {st : Sto} {q : Rat} : toD st 12 (encQ q) = some (.tuple [.int q.num, .int (q.den : Int)]) := by simp [encQ]
theorem log2_le_of {n a : Nat} (h : n < 2 ^ a) : n.log2 ≤ a := by
  by_cases h0 : n = 0
  · subst h0; simp
  · exact Nat.le_of_lt ((Nat.log2_lt h0).mpr h)
theorem mulOk_of {i j : Int} {a b : Nat} (hi : i.natAbs < 2 ^ a) (hj : j.natAbs < 2 ^ b) (h : a + b < 134000000) : mulOk i j = true := by
  have := log2_le_of hi
  have := log2_le_of hj
  unfold mulOk
  exact decide_eq_true (by omega)
theorem noPy {x y : Int} (h : y.natAbs < 2 ^ 8999) : Builtin.divisionGoesByPylong x y = false := PyProof.noPylong_of_log2 (by have := log2_le_of h; omega)
/-- a share of moderate size -/
def Sm (q : Rat) : Prop := q.num.natAbs < 2 ^ 4000 ∧ q.den < 2 ^ 4000
theorem pow_lt {a b : Nat} (h : a < b) : 2 ^ a < 2 ^ b := Nat.pow_lt_pow_right (by decide) h
theorem mul_bits {x y a b : Nat} (h : x < 2 ^ a) (h' : y < 2 ^ b) : x * y < 2 ^ (a + b) := by
  rw [Nat.pow_add]
  exact Nat.mul_lt_mul'' h h'
theorem natAbs_add_bits {x y : Int} {a : Nat} (h : x.natAbs < 2 ^ a) (h' : y.natAbs < 2 ^ a) : (x + y).natAbs < 2 ^ (a + 1) := by
  rw [Nat.pow_succ]; omega
theorem natAbs_mul_bits {x y : Int} {a b : Nat} (h : x.natAbs < 2 ^ a) (h' : y.natAbs < 2 ^ b) : (x * y).natAbs < 2 ^ (a + b) := by
  rw [Int.natAbs_mul]; exact mul_bits h h'
/-! ### the greatest common number, lowest terms -/
theorem gcd_loop : ∀ (n x y : Nat) (st : Sto), y < n → whileF (bOf (eBin kGt (eVar 1) (eC (.int 0)))) (sPar2 0 1 (aCons (eVar 1) (aCons (eBin kMod (eVar 0) (eVar 1)) aNil))) n [some (.int x), some (.int y)] st = .nx [some (.int (Nat.gcd x y : Nat)), some (.int 0)] st := by
  intro n
  induction n with
  | zero => intro x y st h; omega
  | succ n ih =>
    intro x y st h
    by_cases hy : y = 0
    · subst hy; rw [whileF_stop (by simp)]; simp
    · have h0 : (0 : Int) < (y : Int) := by omega
      have hne : ¬ (y : Int) = 0 := by omega
      have e : (x : Int).fmod (y : Int) = ((x % y : Nat) : Int) := by rw [Int.fmod_eq_emod_of_nonneg _ (by omega)]; rfl
      have e2 : Nat.gcd y (x % y) = Nat.gcd x y := by rw [Nat.gcd_comm x y, Nat.gcd_rec y x, Nat.gcd_comm]
      rw [whileF_step (σ1 := [some (.int y), some (.int ((x % y : Nat) : Int))]) (st1 := st) (by simp [h0]; omega) (by simp [hy, e]), ih y (x % y) st (by have := Nat.mod_lt x (Nat.pos_of_ne_zero hy); omega), e2]
theorem abs_if (i : Int) : (if i < 0 then -i else i) = (i.natAbs : Int) := by omega
theorem common_eq (a b : Int) : pure' F_common [.int a, .int b] = .ok (.int (Int.gcd a b : Nat)) [] := by
  have h := gcd_loop (b.natAbs + 1) a.natAbs b.natAbs [] (by omega)
  have w := sWhile_to h (fun z => nomatch z)
  have e : Int.gcd a b = Nat.gcd a.natAbs b.natAbs := rfl
  exact pure_rt (st := []) (v := .int (Int.gcd a b : Nat)) (by simp [S_common, abs_if, w, e]) (by simp)
theorem gcd_le {a b : Int} (h : b ≠ 0) : Int.gcd a b ≤ b.natAbs := Nat.le_of_dvd (by omega) (Nat.gcd_dvd_right _ _)
theorem gcd_pos {a b : Int} (h : b ≠ 0) : 0 < Int.gcd a b := Nat.gcd_pos_of_pos_right _ (by omega)
theorem dvd1 {a b : Int} : ((Int.gcd a b : Nat) : Int) ∣ a := Int.gcd_dvd_left ..
theorem dvd2 {a b : Int} : ((Int.gcd a b : Nat) : Int) ∣ b := Int.gcd_dvd_right ..
/-- lowest terms -/
theorem low_pos {t b : Int} (h : 0 < b) : (Rat.divInt t b).num = t.fdiv (Int.gcd t b : Nat) ∧ ((Rat.divInt t b).den : Int) = b.fdiv (Int.gcd t b : Nat) := by
  rw [Rat.num_divInt, Rat.den_divInt, Int.fdiv_eq_ediv_of_dvd dvd1, Int.fdiv_eq_ediv_of_dvd dvd2, Int.sign_eq_one_of_pos h, Int.gcd_comm b t, if_neg (by omega)]
  refine ⟨by rw [Int.one_mul], ?_⟩
  rw [Int.natCast_ediv]
  congr 1
  omega
theorem low_neg {t b : Int} (h : b < 0) : (Rat.divInt t b).num = t.fdiv (-(Int.gcd t b : Nat)) ∧ ((Rat.divInt t b).den : Int) = b.fdiv (-(Int.gcd t b : Nat)) := by
  have e : Rat.divInt t b = Rat.divInt (-t) (-b) := by
    rw [Rat.neg_divInt_neg]
  have h1 := low_pos (t := -t) (b := -b) (by omega)
  rw [e, h1.1, h1.2]
  have g : Int.gcd (-t) (-b) = Int.gcd t b := by simp
  rw [g]
  have d1 : ((Int.gcd t b : Nat) : Int) ∣ -t := (Int.dvd_neg).mpr dvd1
  have d2 : ((Int.gcd t b : Nat) : Int) ∣ -b := (Int.dvd_neg).mpr dvd2
  rw [Int.fdiv_eq_ediv_of_dvd d1, Int.fdiv_eq_ediv_of_dvd d2, Int.fdiv_eq_ediv_of_dvd (by exact (Int.neg_dvd).mpr dvd1), Int.fdiv_eq_ediv_of_dvd (by exact (Int.neg_dvd).mpr dvd2)]
  rw [Int.ediv_neg, Int.ediv_neg, Int.neg_ediv_of_dvd dvd1, Int.neg_ediv_of_dvd dvd2]
  exact ⟨rfl, rfl⟩
theorem lowest_eq {t b : Int} (h : b ≠ 0) (hb : b.natAbs < 2 ^ 8999) : pure' F_lowest [.int t, .int b] = .ok (encQ (Rat.divInt t b)) [] := by
  have g1 := gcd_pos (a := t) h
  have g2 : Int.gcd t b < 2 ^ 8999 := Nat.lt_of_le_of_lt (gcd_le h) hb
  have g3 : ¬ ((Int.gcd t b : Nat) : Int) = 0 := by omega
  have g4 : ¬ Int.gcd t b = 0 := by omega
  have n1 : ∀ x : Int, Builtin.divisionGoesByPylong x ((Int.gcd t b : Nat) : Int) = false := fun x => noPy (by simpa using g2)
  have n2 : ∀ x : Int, Builtin.divisionGoesByPylong x (-((Int.gcd t b : Nat) : Int)) = false := fun x => noPy (by simpa using g2)
  by_cases hn : b < 0
  · obtain ⟨e1, e2⟩ := low_neg (t := t) hn
    exact pure_rt (st := []) (v := encQ (Rat.divInt t b)) (by simp [S_lowest, common_eq, hn, g4, n2, encQ, e1, e2, h]) (by simp [encQ])
  · obtain ⟨e1, e2⟩ := low_pos (t := t) (b := b) (by omega)
    exact pure_rt (st := []) (v := encQ (Rat.divInt t b)) (by simp [S_lowest, common_eq, hn, g4, n1, encQ, e1, e2, h]) (by simp [encQ])
end
end Bd

set_option exponentiation.threshold 100
namespace Bd
noncomputable section
open PySem L2
/-- sizes that suffice for products of two -/
structure Sz (x y : Rat) : Prop where
  nd : mulOk x.num (y.den : Int) = true
  dn : mulOk y.num (x.den : Int) = true
  dd : mulOk (x.den : Int) (y.den : Int) = true
  nn : mulOk x.num y.num = true
  dn' : mulOk (x.den : Int) y.num = true
  b : ((x.den : Int) * (y.den : Int)).natAbs < 2 ^ 8999
  b' : ((x.den : Int) * y.num).natAbs < 2 ^ 8999
theorem Sm.sz {x y : Rat} (hx : Sm x) (hy : Sm y) : Sz x y := by
  obtain ⟨a, b⟩ := hx
  obtain ⟨c, d⟩ := hy
  have b1 : ((x.den : Int)).natAbs < 2 ^ 4000 := by simpa using b
  have d1 : ((y.den : Int)).natAbs < 2 ^ 4000 := by simpa using d
  have lt : 2 ^ (4000 + 4000) < 2 ^ 8999 := pow_lt (by decide)
  exact ⟨mulOk_of a d1 (by decide), mulOk_of c b1 (by decide), mulOk_of b1 d1 (by decide), mulOk_of a c (by decide), mulOk_of b1 c (by decide), Nat.lt_trans (natAbs_mul_bits b1 d1) lt, Nat.lt_trans (natAbs_mul_bits b1 c) lt⟩
theorem den_ne (x : Rat) : (x.den : Int) ≠ 0 := by have := x.den_nz; omega
theorem den_pos' (x : Rat) : (0 : Int) < (x.den : Int) := by have := x.den_nz; omega
theorem dd_ne (x y : Rat) : (x.den : Int) * (y.den : Int) ≠ 0 := Int.mul_ne_zero (den_ne x) (den_ne y)
theorem add_div (x y : Rat) : Rat.divInt (x.num * (y.den : Int) + y.num * (x.den : Int)) ((x.den : Int) * (y.den : Int)) = x + y := by
  rw [← Rat.divInt_add_divInt _ _ (den_ne x) (den_ne y), Rat.num_divInt_den, Rat.num_divInt_den]
theorem sub_div (x y : Rat) : Rat.divInt (x.num * (y.den : Int) - y.num * (x.den : Int)) ((x.den : Int) * (y.den : Int)) = x - y := by
  rw [← Rat.divInt_sub_divInt _ _ (den_ne x) (den_ne y), Rat.num_divInt_den, Rat.num_divInt_den]
theorem mul_div (x y : Rat) : Rat.divInt (x.num * y.num) ((x.den : Int) * (y.den : Int)) = x * y := by
  rw [← Rat.divInt_mul_divInt, Rat.num_divInt_den, Rat.num_divInt_den]
theorem div_div' (x y : Rat) : Rat.divInt (x.num * (y.den : Int)) ((x.den : Int) * y.num) = x / y := by
  rw [← Rat.divInt_mul_divInt, Rat.num_divInt_den, Rat.div_def, Rat.inv_def]
theorem num_ne {y : Rat} (h : y ≠ 0) : y.num ≠ 0 := fun z => h (Rat.num_eq_zero.mp z)
@[simp] theorem tight_encQ {q : Rat} : tight (encQ q) = true := by simp [encQ]
@[simp] theorem seq_encQ {st : Sto} {q : Rat} : seqOf st (encQ q) = some [.int q.num, .int (q.den : Int)] := rfl
@[simp] theorem k_ix0 {st : Sto} {q : Rat} : kIx (encQ q) (.int 0) st = .ok (.int q.num) st := by simp
@[simp] theorem k_ix1 {st : Sto} {q : Rat} : kIx (encQ q) (.int 1) st = .ok (.int (q.den : Int)) st := by simp
@[simp] theorem d_encQ {st : Sto} {n : Nat} {q : Rat} : toD st (n + 3) (encQ q) = some (.tuple [.int q.num, .int (q.den : Int)]) := by simp [encQ]
@[simp] theorem isNon_encQ {q : Rat} : isNon (encQ q) = some false := rfl
@[simp] theorem isi_encQ {st : Sto} {q : Rat} {t : BT} : isi st (encQ q) t = some (decide (t = .tuple)) := rfl
@[simp] theorem eqv_encQ {x y : Rat} : ((x.num == y.num) && ((x.den : Int) == (y.den : Int))) = decide (x = y) := by
  by_cases h : x = y
  · subst h; simp
  · rw [decide_eq_false h]
    apply Bool.eq_false_iff.mpr
    intro z
    simp only [Bool.and_eq_true, beq_iff_eq] at z
    exact h (Rat.ext z.1 (by omega))
@[simp] theorem rd_encQ {st : Sto} {n : Nat} {q : Rat} : rd st (n + 3) (encQ q) = some (encQ q) := by simp [encQ]
theorem added_eq {x y : Rat} (h : Sz x y) : pure' F_added [encQ x, encQ y] = .ok (encQ (x + y)) [] := by
  have e := lowest_eq (t := x.num * (y.den : Int) + y.num * (x.den : Int)) (dd_ne x y) h.b
  rw [add_div] at e
  exact pure_rt (st := []) (v := encQ (x + y)) (by simp [S_added, encQ, h.nd, h.dn, h.dd]; simp [e, encQ]) (by simp)
theorem less_eq {x y : Rat} (h : Sz x y) : pure' F_less [encQ x, encQ y] = .ok (encQ (x - y)) [] := by
  have e := lowest_eq (t := x.num * (y.den : Int) - y.num * (x.den : Int)) (dd_ne x y) h.b
  rw [sub_div] at e
  exact pure_rt (st := []) (v := encQ (x - y)) (by simp [S_less, encQ, h.nd, h.dn, h.dd]; simp [e, encQ]) (by simp)
theorem product_eq {x y : Rat} (h : Sz x y) : pure' F_product [encQ x, encQ y] = .ok (encQ (x * y)) [] := by
  have e := lowest_eq (t := x.num * y.num) (dd_ne x y) h.b
  rw [mul_div] at e
  exact pure_rt (st := []) (v := encQ (x * y)) (by simp [S_product, encQ, h.nn, h.dd]; simp [e, encQ]) (by simp)
theorem quotient_eq {x y : Rat} (h : Sz x y) (hy : y ≠ 0) : pure' F_quotient [encQ x, encQ y] = .ok (encQ (x / y)) [] := by
  have e := lowest_eq (t := x.num * (y.den : Int)) (Int.mul_ne_zero (den_ne x) (num_ne hy)) h.b'
  rw [div_div'] at e
  exact pure_rt (st := []) (v := encQ (x / y)) (by simp [S_quotient, encQ, h.nd, h.dn']; simp [e, encQ]) (by simp)
/-- 1, 0, -1 -/
def sgn (x y : Rat) : Int := if y < x then 1 else if x = y then 0 else -1
theorem far_pos (x y : Rat) : 0 < x.num * (y.den : Int) - y.num * (x.den : Int) ↔ y < x := by rw [Rat.lt_iff]; omega
theorem far_zero (x y : Rat) : x.num * (y.den : Int) - y.num * (x.den : Int) = 0 ↔ x = y := by rw [Rat.eq_iff_mul_eq_mul]; omega
theorem sign_eq {x y : Rat} (h : Sz x y) : pure' F_sign [encQ x, encQ y] = .ok (.int (sgn x y)) [] := by
  refine pure_rt (st := []) (v := .int (sgn x y)) ?_ (by simp)
  have h1 := far_pos x y
  have h2 := far_zero x y
  generalize hd : x.num * (y.den : Int) - y.num * (x.den : Int) = d at h1 h2
  simp [S_sign, encQ, h.nd, h.dn, hd]
  unfold sgn
  by_cases p1 : y < x
  · simp [p1, h1.mpr p1]
  · have q1 : ¬ 0 < d := fun z => p1 (h1.mp z)
    by_cases p2 : x = y
    · have q2 := h2.mpr p2
      simp [p1, q1, p2, q2]
    · have q2 : ¬ d = 0 := fun z => p2 (h2.mp z)
      simp [p1, q1, p2, q2]
theorem number_int (i : Int) : pure' F_is_number [.int i] = .ok (.bl true) [] := pure_rt (st := []) (v := .bl true) (by simp [S_is_number]) (by simp)
theorem gcd_one (x : Rat) : Int.gcd x.num (x.den : Int) = 1 := x.reduced
theorem is_share_eq (x : Rat) : pure' F_is_share [encQ x] = .ok (.bl true) [] := by
  have h0 := den_pos' x
  have e := common_eq x.num (x.den : Int)
  rw [gcd_one] at e
  exact pure_rt (st := []) (v := .bl true) (by simp [S_is_share, encQ, number_int, h0, e, x.den_pos]) (by simp)
theorem check_share_eq (x : Rat) : pure' F_check_share [encQ x] = .ok .non [] :=
  pure_nx (σ := [some (encQ x)]) (st := []) (by simp [S_check_share, is_share_eq])
theorem share_eq {t b : Int} (h : b ≠ 0) (hb : b.natAbs < 2 ^ 8999) : pure' F_share [.int t, .int b] = .ok (encQ (Rat.divInt t b)) [] :=
  pure_rt (st := []) (v := encQ (Rat.divInt t b)) (by simp [S_share, number_int, h, lowest_eq h hb]) (by simp)
theorem plus_eq {x y : Rat} (h : Sz x y) : pure' F_plus [encQ x, encQ y] = .ok (encQ (x + y)) [] :=
  pure_rt (st := []) (v := encQ (x + y)) (by simp [S_plus, check_share_eq, added_eq h]) (by simp)
theorem minus_eq {x y : Rat} (h : Sz x y) : pure' F_minus [encQ x, encQ y] = .ok (encQ (x - y)) [] :=
  pure_rt (st := []) (v := encQ (x - y)) (by simp [S_minus, check_share_eq, less_eq h]) (by simp)
theorem times_eq {x y : Rat} (h : Sz x y) : pure' F_times [encQ x, encQ y] = .ok (encQ (x * y)) [] :=
  pure_rt (st := []) (v := encQ (x * y)) (by simp [S_times, check_share_eq, product_eq h]) (by simp)
theorem over_eq {x y : Rat} (h : Sz x y) (hy : y ≠ 0) : pure' F_over [encQ x, encQ y] = .ok (encQ (x / y)) [] := by
  have hn := num_ne hy
  have e := quotient_eq h hy
  refine pure_rt (st := []) (v := encQ (x / y)) ?_ (by simp)
  simp [S_over, check_share_eq, e, hn]
theorem order_eq {x y : Rat} (h : Sz x y) : pure' F_order [encQ x, encQ y] = .ok (.int (sgn x y)) [] :=
  pure_rt (st := []) (v := .int (sgn x y)) (by simp [S_order, check_share_eq, sign_eq h]) (by simp)
/-! the laws' own words -/
theorem gcd_loop2 : ∀ (n x y : Nat) (a b : Option Val) (st : Sto), y < n → whileF (bOf (eBin kGt (eVar 3) (eC (.int 0)))) (sPar2 2 3 (aCons (eVar 3) (aCons (eBin kMod (eVar 2) (eVar 3)) aNil))) n [a, b, some (.int x), some (.int y)] st = .nx [a, b, some (.int (Nat.gcd x y : Nat)), some (.int 0)] st := by
  intro n
  induction n with
  | zero => intro x y a b st h; omega
  | succ n ih =>
    intro x y a b st h
    by_cases hy : y = 0
    · subst hy; rw [whileF_stop (by simp)]; simp
    · have h0 : (0 : Int) < (y : Int) := by omega
      have e : (x : Int).fmod (y : Int) = ((x % y : Nat) : Int) := by rw [Int.fmod_eq_emod_of_nonneg _ (by omega)]; rfl
      have e2 : Nat.gcd y (x % y) = Nat.gcd x y := by rw [Nat.gcd_comm x y, Nat.gcd_rec y x, Nat.gcd_comm]
      rw [whileF_step (σ1 := [a, b, some (.int y), some (.int ((x % y : Nat) : Int))]) (st1 := st) (by simp [h0]; omega) (by simp [hy, e]), ih y (x % y) a b st (by have := Nat.mod_lt x (Nat.pos_of_ne_zero hy); omega), e2]
theorem law_low_eq {t b : Int} (h : 0 < b) (hb : b.natAbs < 2 ^ 8999) : pure' F_law_low [.int t, .int b] = .ok (encQ (Rat.divInt t b)) [] := by
  obtain ⟨c, rfl⟩ : ∃ c : Nat, b = (c : Int) := ⟨b.toNat, by omega⟩
  have g1 := gcd_pos (a := t) (b := (c : Int)) (by omega)
  have g2 : Int.gcd t c < 2 ^ 8999 := Nat.lt_of_le_of_lt (gcd_le (by omega)) hb
  have g4 : ¬ Int.gcd t c = 0 := by omega
  have n1 : ∀ x : Int, Builtin.divisionGoesByPylong x ((Int.gcd t c : Nat) : Int) = false := fun x => noPy (by simpa using g2)
  obtain ⟨e1, e2⟩ := low_pos (t := t) h
  have hw := sWhile_to (gcd_loop2 (c + 1) t.natAbs c (some (.int t)) (some (.int c)) [] (by omega)) (fun z => nomatch z)
  have e : Nat.gcd t.natAbs c = Int.gcd t c := rfl
  rw [e] at hw
  exact pure_rt (st := []) (v := encQ (Rat.divInt t c)) (by rw [Rat.divInt_ofNat] at e1 e2; simp [S_law_low, abs_if, hw, g4, n1, encQ, e1, e2]) (by simp)
theorem law_sum_eq {x y : Rat} (h : Sz x y) : pure' F_law_sum [encQ x, encQ y] = .ok (encQ (x + y)) [] := by
  have e := law_low_eq (t := x.num * (y.den : Int) + y.num * (x.den : Int)) (Int.mul_pos (den_pos' x) (den_pos' y)) h.b
  rw [add_div] at e
  exact pure_rt (st := []) (v := encQ (x + y)) (by simp [S_law_sum, encQ, h.nd, h.dn, h.dd]; simp [e, encQ]) (by simp)
theorem law_by_eq {x y : Rat} (h : Sz x y) : pure' F_law_by [encQ x, encQ y] = .ok (encQ (x * y)) [] := by
  have e := law_low_eq (t := x.num * y.num) (Int.mul_pos (den_pos' x) (den_pos' y)) h.b
  rw [mul_div] at e
  exact pure_rt (st := []) (v := encQ (x * y)) (by simp [S_law_by, encQ, h.nn, h.dd]; simp [e, encQ]) (by simp)
theorem encQ_neg (y : Rat) : encQ (-y) = .tup [.int (-y.num), .int (y.den : Int)] := by simp [encQ]
theorem law_less_eq {x y : Rat} (h : Sz x (-y)) : pure' F_law_less [encQ x, encQ y] = .ok (encQ (x - y)) [] := by
  have e := law_sum_eq h
  rw [encQ_neg, ← Rat.sub_eq_add_neg] at e
  refine pure_rt (st := []) (v := encQ (x - y)) ?_ (by simp)
  have f : encQ y = .tup [.int y.num, .int (y.den : Int)] := rfl
  simp [S_law_less, f, e]
theorem law_part_eq {x y : Rat} (h : Sz x y) (hy : 0 < y) : pure' F_law_part [encQ x, encQ y] = .ok (encQ (x / y)) [] := by
  have hn : 0 < y.num := by
    have := (Rat.lt_iff 0 y).mp hy
    simpa using this
  have e := law_low_eq (t := x.num * (y.den : Int)) (Int.mul_pos (den_pos' x) hn) h.b'
  rw [div_div'] at e
  exact pure_rt (st := []) (v := encQ (x / y)) (by simp [S_law_part, encQ, h.nd, h.dn']; simp [e, encQ]) (by simp)
/-- how far the first is ahead of the second, by crosswise multiplying -/
def farI (x y : Rat) : Int := x.num * (y.den : Int) - y.num * (x.den : Int)
theorem law_far_eq {x y : Rat} (h : Sz x y) : pure' F_law_far [encQ x, encQ y] = .ok (.int (farI x y)) [] :=
  pure_rt (st := []) (v := .int (farI x y)) (by simp [S_law_far, encQ, h.nd, h.dn, farI]) (by simp)
theorem law_whole_int (i : Int) : pure' F_law_whole [.int i] = .ok (.bl true) [] := pure_rt (st := []) (v := .bl true) (by simp [S_law_whole]) (by simp)
theorem law_is_share_eq {x : Rat} (hx : x.den < 2 ^ 8999) : pure' F_law_is_share [encQ x] = .ok (.bl true) [] := by
  have h0 := den_pos' x
  have e := law_low_eq (t := x.num) h0 (by simpa using hx)
  rw [Rat.num_divInt_den] at e
  exact pure_rt (st := []) (v := .bl true) (by simp [S_law_is_share, encQ, law_whole_int, h0]; simp [e, encQ, x.den_pos]) (by simp)
end
end Bd

namespace Bd
noncomputable section
open PySem L2
/-! ## the laws' drawn numbers -/
def lawMixed (cell at' whole : Int) : Int := ((cell + 977 * at') * 48271 + whole).fmod 2147483647
def lawMore (cell at' whole : Int) : Int := lawMixed cell at' whole * (lawMixed cell at' whole + 31 * at' + 7) * (lawMixed cell at' whole + cell + 5)
def lawNumber (cell at' whole : Int) : Int := if cell ≥ 10 ^ 18 then cell else (lawMore cell at' whole * (lawMore cell at' whole + 48271)).fdiv 1009
/-- below two to the n -/
def Bt (n : Nat) (i : Int) : Prop := i.natAbs < 2 ^ n
theorem Bt.mono {n m : Nat} {i : Int} (h : Bt n i) (hm : n ≤ m) : Bt m i := Nat.lt_of_lt_of_le h (Nat.pow_le_pow_right (by decide) hm)
theorem Bt.add {n m : Nat} {i j : Int} (h : Bt n i) (h' : Bt m j) : Bt (max n m + 1) (i + j) := natAbs_add_bits (h.mono (Nat.le_max_left _ _)) (h'.mono (Nat.le_max_right _ _))
theorem Bt.mul {n m : Nat} {i j : Int} (h : Bt n i) (h' : Bt m j) : Bt (n + m) (i * j) := natAbs_mul_bits h h'
theorem Bt.ok {n m : Nat} {i j : Int} (h : Bt n i) (h' : Bt m j) (hs : n + m < 134000000) : mulOk i j = true := mulOk_of h h' hs
theorem Bt.neg {n : Nat} {i : Int} (h : Bt n i) : Bt n (-i) := by unfold Bt at *; simpa using h
theorem Bt.fmod {i j : Int} {n : Nat} (hj : 0 < j) (h : Bt n j) : Bt n (i.fmod j) := by
  have h1 := Int.fmod_nonneg_of_pos i hj
  have h2 := Int.fmod_lt_of_pos i hj
  unfold Bt at *
  omega
theorem law_number_g {cell at' whole : Int} (hc : Bt 1048600 cell) (ha : Bt 20 at') (hw : Bt 1048600 whole) : pure' F_law_number [.int cell, .int at', .int whole] = .ok (.int (lawNumber cell at' whole)) [] := by
  refine pure_rt (st := []) (v := .int (lawNumber cell at' whole)) ?_ (by simp)
  have p : ((10 : Int) ^ Int.toNat 18) = 1000000000000000000 := by decide
  have n977 : Bt 10 977 := by unfold Bt; decide
  have n48 : Bt 16 48271 := by unfold Bt; decide
  have n31 : Bt 5 31 := by unfold Bt; decide
  have n7 : Bt 3 7 := by unfold Bt; decide
  have n5 : Bt 3 5 := by unfold Bt; decide
  have m1 := n977.ok ha (by decide)
  have a1 := hc.add (n977.mul ha)
  have m2 := a1.ok n48 (by decide)
  have mx : Bt 31 (lawMixed cell at' whole) := Bt.fmod (by decide) (by unfold Bt; decide)
  have m3 := n31.ok ha (by decide)
  have b1 := (mx.add (n31.mul ha)).add n7
  have b2 := (mx.add hc).add n5
  have m4 := mx.ok b1 (by decide)
  have m5 := (mx.mul b1).ok b2 (by decide)
  have mo : Bt 1048700 (lawMore cell at' whole) := ((mx.mul b1).mul b2).mono (by decide)
  have m6 := mo.ok (mo.add n48) (by decide)
  have d : ∀ x : Int, Builtin.divisionGoesByPylong x 1009 = false := fun x => noPy (Nat.lt_trans (by decide : (1009 : Int).natAbs < 2 ^ 10) (pow_lt (by decide)))
  unfold lawMore at m6
  unfold lawMixed at m4 m5 m6
  unfold lawNumber
  by_cases h : (10 : Int) ^ 18 ≤ cell
  · have h' : (1000000000000000000 : Int) ≤ cell := h
    simp [S_law_number, h', p]
  · have h' : ¬ (1000000000000000000 : Int) ≤ cell := h
    simp [S_law_number, h', p, m1, m2, m3, m4, m5, m6, d, lawMore, lawMixed]
theorem law_number_eq {cell at' whole : Int} (hc : Bt 1048576 cell) (ha : Bt 20 at') (hw : Bt 1048590 whole) : pure' F_law_number [.int cell, .int at', .int whole] = .ok (.int (lawNumber cell at' whole)) [] := law_number_g (hc.mono (by decide)) ha (hw.mono (by decide))
/-! ## for loops -/
theorem forL_inv {t : Tg} {body : SI} {still : Sto → Prop} (P : Sg → Sto → Prop) (hs : ∀ σ st, P σ st → still st) : ∀ {items : List Val} {σ : Sg} {st : Sto}, P σ st →
    (∀ v ∈ items, ∀ σ st, P σ st → ∃ σ1, Tg.st st t v σ = some σ1 ∧ ∃ σ2 st2, (body σ1 st = .nx σ2 st2 ∨ body σ1 st = .ct σ2 st2) ∧ P σ2 st2) → ∃ σ' st', forL t body still items σ st = .nx σ' st' ∧ P σ' st'
  | [], σ, st, h, _ => ⟨σ, st, by simp, h⟩
  | v :: vs, σ, st, h, step => by
    obtain ⟨σ1, e1, σ2, st2, e2, h2⟩ := step v (by simp) σ st h
    obtain ⟨σ', st', e3, h3⟩ := forL_inv (items := vs) P hs h2 fun u hu => step u (by simp [hu])
    refine ⟨σ', st', ?_, h3⟩
    have q := hs _ _ h2
    rcases e2 with e2 | e2 <;> simp [e1, e2, q, e3]
/-- a loop by places: P k holds ahead of the k-th turn -/
theorem forL_ix {t : Tg} {body : SI} {still : Sto → Prop} (P : Nat → Sg → Sto → Prop) (hs : ∀ k σ st, P k σ st → still st) : ∀ {items : List Val} {k : Nat} {σ : Sg} {st : Sto}, P k σ st →
    (∀ j v, items[j]? = some v → ∀ σ st, P (k + j) σ st → ∃ σ1, Tg.st st t v σ = some σ1 ∧ ∃ σ2 st2, (body σ1 st = .nx σ2 st2 ∨ body σ1 st = .ct σ2 st2) ∧ P (k + j + 1) σ2 st2) → ∃ σ' st', forL t body still items σ st = .nx σ' st' ∧ P (k + items.length) σ' st'
  | [], k, σ, st, h, _ => ⟨σ, st, by simp, h⟩
  | v :: vs, k, σ, st, h, step => by
    obtain ⟨σ1, e1, σ2, st2, e2, h2⟩ := step 0 v (by simp) σ st h
    obtain ⟨σ', st', e3, h3⟩ := forL_ix (items := vs) (k := k + 1) P hs h2 fun j u hu σ st hp => by
      have := step (j + 1) u (by simpa using hu) σ st (by rw [show k + (j + 1) = k + 1 + j by omega]; exact hp)
      rwa [show k + (j + 1) + 1 = k + 1 + j + 1 by omega] at this
    refine ⟨σ', st', ?_, by rw [List.length_cons, show k + (vs.length + 1) = k + 1 + vs.length by omega]; exact h3⟩
    have q := hs _ _ _ h2
    rcases e2 with e2 | e2 <;> simp [e1, e2, q, e3]
theorem sSeq_nx {f g : SI} {σ σ1 : Sg} {st st1 : Sto} (h : f σ st = .nx σ1 st1) : sSeq f g σ st = g σ1 st1 := by simp [h]
theorem intsOf_map (ns : List Int) : intsOf (ns.map .int) = some ns := by
  induction ns with
  | nil => rfl
  | cons n ns ih => simp [intsOf, ih]
end
end Bd

namespace Bd
noncomputable section
open PySem L2
@[simp] theorem fold_encQ {q : Rat} : Val.tup [.int q.num, .int (q.den : Int)] = encQ q := rfl
/-! ## sizes of shares -/
def Sq (n : Nat) (x : Rat) : Prop := x.num.natAbs < 2 ^ n ∧ x.den < 2 ^ n
theorem Sq.mono {n m : Nat} {x : Rat} (h : Sq n x) (hm : n ≤ m) : Sq m x :=
  ⟨Nat.lt_of_lt_of_le h.1 (Nat.pow_le_pow_right (by decide) hm), Nat.lt_of_lt_of_le h.2 (Nat.pow_le_pow_right (by decide) hm)⟩
theorem Sq.bn {n : Nat} {x : Rat} (h : Sq n x) : Bt n x.num := h.1
theorem Sq.bd {n : Nat} {x : Rat} (h : Sq n x) : Bt n (x.den : Int) := by unfold Bt; simpa using h.2
theorem Sq.sz {n m : Nat} {x y : Rat} (hx : Sq n x) (hy : Sq m y) (h : n + m ≤ 8999) : Sz x y := by
  have lt : 2 ^ (n + m) ≤ 2 ^ 8999 := Nat.pow_le_pow_right (by decide) h
  exact ⟨hx.bn.ok hy.bd (by omega), hy.bn.ok hx.bd (by omega), hx.bd.ok hy.bd (by omega), hx.bn.ok hy.bn (by omega), hx.bd.ok hy.bn (by omega), Nat.lt_of_lt_of_le (natAbs_mul_bits hx.bd hy.bd) lt, Nat.lt_of_lt_of_le (natAbs_mul_bits hx.bd hy.bn) lt⟩
theorem Sq.divInt {n : Nat} {t b : Int} (ht : Bt n t) (hb : Bt n b) (h0 : b ≠ 0) : Sq n (Rat.divInt t b) := by
  have g := gcd_pos (a := t) h0
  by_cases hn : b < 0
  · obtain ⟨e1, e2⟩ := low_neg (t := t) hn
    rw [Int.fdiv_eq_ediv_of_dvd ((Int.neg_dvd).mpr dvd1), Int.ediv_neg] at e1
    rw [Int.fdiv_eq_ediv_of_dvd ((Int.neg_dvd).mpr dvd2), Int.ediv_neg] at e2
    refine ⟨?_, ?_⟩
    · rw [e1, Int.natAbs_neg, Int.natAbs_ediv_of_dvd dvd1]
      exact Nat.lt_of_le_of_lt (Nat.div_le_self _ _) ht
    · have : (Rat.divInt t b).den = (b / (Int.gcd t b : Nat)).natAbs := by omega
      rw [this, Int.natAbs_ediv_of_dvd dvd2]
      exact Nat.lt_of_le_of_lt (Nat.div_le_self _ _) hb
  · obtain ⟨e1, e2⟩ := low_pos (t := t) (b := b) (by omega)
    rw [Int.fdiv_eq_ediv_of_dvd dvd1] at e1
    rw [Int.fdiv_eq_ediv_of_dvd dvd2] at e2
    refine ⟨?_, ?_⟩
    · rw [e1, Int.natAbs_ediv_of_dvd dvd1]
      exact Nat.lt_of_le_of_lt (Nat.div_le_self _ _) ht
    · have : (Rat.divInt t b).den = (b / (Int.gcd t b : Nat)).natAbs := by omega
      rw [this, Int.natAbs_ediv_of_dvd dvd2]
      exact Nat.lt_of_le_of_lt (Nat.div_le_self _ _) hb
theorem Sq.add {n m : Nat} {x y : Rat} (hx : Sq n x) (hy : Sq m y) : Sq (n + m + 1) (x + y) := by
  rw [← add_div x y]
  have h1 := (hx.bn.mul hy.bd).add (hy.bn.mul hx.bd)
  exact Sq.divInt (h1.mono (by omega)) ((hx.bd.mul hy.bd).mono (by omega)) (dd_ne x y)
theorem Sq.neg {n : Nat} {x : Rat} (hx : Sq n x) : Sq n (-x) := ⟨by simpa using hx.1, hx.2⟩
theorem Sq.sub {n m : Nat} {x y : Rat} (hx : Sq n x) (hy : Sq m y) : Sq (n + m + 1) (x - y) := by
  rw [Rat.sub_eq_add_neg]; exact hx.add hy.neg
theorem Sq.mul {n m : Nat} {x y : Rat} (hx : Sq n x) (hy : Sq m y) : Sq (n + m) (x * y) := by
  rw [← mul_div x y]
  exact Sq.divInt (hx.bn.mul hy.bn) (hx.bd.mul hy.bd) (dd_ne x y)
theorem Sq.div {n m : Nat} {x y : Rat} (hx : Sq n x) (hy : Sq m y) (h : y ≠ 0) : Sq (n + m) (x / y) := by
  rw [← div_div' x y]
  exact Sq.divInt (hx.bn.mul hy.bd) (hx.bd.mul hy.bn) (Int.mul_ne_zero (den_ne x) (num_ne h))
theorem Sq.int {n : Nat} {i : Int} (h : Bt (n + 1) i) : Sq (n + 1) (i : Rat) := ⟨h, by rw [Rat.den_intCast]; exact Nat.lt_of_lt_of_le (by decide : 1 < 2 ^ 1) (Nat.pow_le_pow_right (by decide) (by omega))⟩
/-- crosswise -/
theorem cross_of {q : Rat} {t b : Int} (h : q = Rat.divInt t b) (hb : b ≠ 0) : q.num * b = (q.den : Int) * t := by
  have e : Rat.divInt q.num (q.den : Int) = Rat.divInt t b := by rw [Rat.num_divInt_den]; exact h
  rw [Rat.divInt_eq_divInt_iff (den_ne q) hb] at e
  rw [e, Int.mul_comm]
/-- the laws' «same share» -/
theorem law_same_eq {q : Rat} {t b : Int} {n m : Nat} (hq : Sq n q) (ht : Bt m t) (hb : Bt m b) (h : q = Rat.divInt t b) (h0 : b ≠ 0) (hs : n + m < 8999) : pure' F_law_same [encQ q, .int t, .int b] = .ok (.bl true) [] := by
  have e := law_is_share_eq (x := q) (Nat.lt_of_lt_of_le hq.2 (Nat.pow_le_pow_right (by decide) (by omega)))
  have m1 := hq.bn.ok hb (by omega)
  have m2 := hq.bd.ok ht (by omega)
  exact pure_rt (st := []) (v := .bl true) (by simp [S_law_same, e, m1, m2, cross_of h h0]) (by simp)
end
end Bd

namespace Bd
noncomputable section
open PySem L2
/-! ## drawn things: the script, its sum -/
theorem bt_of {n : Nat} {i : Int} {b : Int} (h1 : -b ≤ i) (h2 : i ≤ b) (hb : Bt n b) : Bt n i := by
  unfold Bt at *
  omega
theorem bt_bits {z : Int} {n : Nat} (h : Builtin.Int.intBits z ≤ n) : Bt n z := by
  unfold Builtin.Int.intBits at h
  unfold Bt
  split at h
  · rename_i e
    have : z = 0 := by simpa using e
    subst this
    exact Nat.pow_pos (by decide)
  · rename_i e
    have h0 : z.natAbs ≠ 0 := fun q => e (by simp; omega)
    exact (Nat.log2_lt h0).mp (by omega)
theorem bt_sum {n : Nat} : ∀ {l : List Int}, (∀ z ∈ l, Bt n z) → l.sum.natAbs ≤ l.length * 2 ^ n
  | [], _ => by simp
  | z :: l, h => by
    have h1 := h z (by simp)
    have h2 := bt_sum (l := l) fun y hy => h y (by simp [hy])
    unfold Bt at h1
    rw [List.sum_cons, List.length_cons, Nat.succ_mul]
    omega
/-- the scripts of a law -/
structure Scr (ns : List Int) : Prop where
  len : ns.length ≤ 63
  bits : ∀ z ∈ ns, Bt 1048576 z
theorem Scr.sum {ns : List Int} (h : Scr ns) : Bt 1048590 ns.sum := by
  have h1 := bt_sum h.bits
  have h2 := h.len
  unfold Bt
  have e : (2 : Nat) ^ 1048590 = 2 ^ 1048576 * 2 ^ 14 := by rw [← Nat.pow_add]
  rw [e]
  have p : 0 < 2 ^ 1048576 := Nat.pow_pos (by decide)
  generalize 2 ^ 1048576 = X at *
  have : ns.length * X ≤ 63 * X := Nat.mul_le_mul_right _ h2
  omega
theorem cutG_all {α : Type} (xs : List α) (n : Nat) (h : xs.length ≤ n) : cutG xs none (some (n : Int)) = xs := by
  unfold cutG
  rw [HT.sIx_none, HT.sIx_nat]
  simp [h]
theorem scr_of {ns : List Int} (h : ns.length ≤ 63) (hb : ∀ z ∈ ns, Builtin.Int.intBits z ≤ 1048576) : Scr ns := ⟨h, fun z hz => bt_bits (hb z hz)⟩
/-- an item of four written numbers, by a remainder -/
theorem pick4 (a b c d x : Int) : ∃ w, atI [Val.int a, .int b, .int c, .int d] (x.fmod 4) = some (.int w) ∧ (w = a ∨ w = b ∨ w = c ∨ w = d) := by
  have h1 := Int.fmod_nonneg_of_pos x (by decide : (0 : Int) < 4)
  have h2 := Int.fmod_lt_of_pos x (by decide : (0 : Int) < 4)
  have : x.fmod 4 = 0 ∨ x.fmod 4 = 1 ∨ x.fmod 4 = 2 ∨ x.fmod 4 = 3 := by omega
  rcases this with e | e | e | e <;> rw [e]
  · exact ⟨a, by simp, by simp⟩
  · exact ⟨b, by simp, by simp⟩
  · exact ⟨c, by simp, by simp⟩
  · exact ⟨d, by simp, by simp⟩
theorem pick3 (a b c x : Int) : ∃ w, atI [Val.int a, .int b, .int c] (x.fmod 3) = some (.int w) ∧ (w = a ∨ w = b ∨ w = c) := by
  have h1 := Int.fmod_nonneg_of_pos x (by decide : (0 : Int) < 3)
  have h2 := Int.fmod_lt_of_pos x (by decide : (0 : Int) < 3)
  have : x.fmod 3 = 0 ∨ x.fmod 3 = 1 ∨ x.fmod 3 = 2 := by omega
  rcases this with e | e | e <;> rw [e]
  · exact ⟨a, by simp, by simp⟩
  · exact ⟨b, by simp, by simp⟩
  · exact ⟨c, by simp, by simp⟩
theorem pick2 (a b x : Int) : ∃ w, atI [Val.int a, .int b] (x.fmod 2) = some (.int w) ∧ (w = a ∨ w = b) := by
  have h1 := Int.fmod_nonneg_of_pos x (by decide : (0 : Int) < 2)
  have h2 := Int.fmod_lt_of_pos x (by decide : (0 : Int) < 2)
  have : x.fmod 2 = 0 ∨ x.fmod 2 = 1 := by omega
  rcases this with e | e <;> rw [e]
  · exact ⟨a, by simp, by simp⟩
  · exact ⟨b, by simp, by simp⟩
/-- an item of the script by its place, and the one ahead of it (of the first: the last) -/
theorem at_script {ns : List Int} {j : Nat} (h : j < ns.length) : atI (ns.map Val.int) (j : Int) = some (.int ns[j]) := at_lt (by simp [h])
theorem at_before {ns : List Int} {j : Nat} (h : j < ns.length) : ∃ z ∈ ns, atI (ns.map Val.int) ((j : Int) - 1) = some (.int z) := by
  cases j with
  | zero =>
    refine ⟨ns[ns.length - 1], List.getElem_mem _, ?_⟩
    unfold atI ixN
    rw [if_neg (by omega), if_pos (by simp; omega)]
    have e : ((0 : Nat) : Int) - 1 + (((ns.map Val.int).length : Nat) : Int) = ((ns.length - 1 : Nat) : Int) := by simp; omega
    rw [e]
    simp [show ns.length - 1 < ns.length by omega]
  | succ j =>
    refine ⟨ns[j], List.getElem_mem _, ?_⟩
    rw [show ((j + 1 : Nat) : Int) - 1 = (j : Int) by omega]
    exact at_script (by omega)
theorem py_small {x y : Int} {n : Nat} (h : Bt n y) (hn : n ≤ 8999) : Builtin.divisionGoesByPylong x y = false := noPy (Nat.lt_of_lt_of_le h (Nat.pow_le_pow_right (by decide) hn))
end
end Bd

namespace Bd
noncomputable section
open PySem L2
/-! ## the laws that go over the script's cells -/
theorem x_range1_nat {f : EI} {σ : Sg} {st st1 : Sto} {n : Nat} (h : f σ st = .ok (.int n) st1) (hn : n ≤ 1000000) : iRange1 f σ st = .ok (rangeV 0 n, fun _ => True) st1 := by
  simp [h, small62_nat hn]
theorem min63 {n : Nat} (hl : n ≤ 63) : (if (n : Int) < 63 then (n : Int) else 63) = (n : Int) := by
  split <;> omega
def cells_sum : SI := sAsg (.nm 1) (eB kSum (aCons (eSl (eVar 0) pNone (pSome (eC (.int 63)))) aNil))
def cells_it : II := iRange1 (eB kMin2 (aCons (eC (.int 63)) (aCons (eB kLen (aCons (eVar 0) aNil)) aNil)))
theorem cells_sum_eq {ns : List Int} {s1 : Option Val} {s : Sg} (hl : ns.length ≤ 63) {st : Sto} : cells_sum (some (Val.scr (ns.map .int)) :: s1 :: s) st = .nx (some (Val.scr (ns.map .int)) :: some (.int ns.sum) :: s) st := by
  have hc : cutG (ns.map Val.int) none (some 63) = ns.map Val.int := cutG_all _ 63 (by simpa using hl)
  simp [cells_sum, hc, intsOf_map]
theorem cells_it_eq {ns : List Int} {s : Sg} (hl : ns.length ≤ 63) {st : Sto} : cells_it (some (Val.scr (ns.map .int)) :: s) st = .ok (rangeV 0 ns.length, fun _ => True) st := by
  have hmin := min63 hl
  exact x_range1_nat (by simp [hmin]) (by omega)
theorem cells_loop {n : Nat} {body : SI} {ns : List Int} {W : Int} (hb : ∀ j, j < ns.length → ∀ (t : Sg) (st : Sto), t.length = n → ∃ t' : Sg, t'.length = n + 1 ∧ ∃ st', body (some (.scr (ns.map .int)) :: some (.int W) :: some (.int (j : Int)) :: t) st = .nx (some (.scr (ns.map .int)) :: some (.int W) :: t') st')
    (t : Sg) (ht : t.length = n + 1) (st : Sto) : ∃ σ' st', forL (.nm 2) body (fun _ => True) (rangeV 0 ns.length) (some (.scr (ns.map .int)) :: some (.int W) :: t) st = .nx σ' st' := by
  obtain ⟨σ', st', e1, t, e2, e3⟩ := forL_inv (t := .nm 2) (body := body) (still := fun _ => True) (items := rangeV 0 ns.length) (σ := some (.scr (ns.map .int)) :: some (.int W) :: t) (st := st)
    (fun σ _ => ∃ t : Sg, t.length = n + 1 ∧ σ = some (.scr (ns.map .int)) :: some (.int W) :: t) (fun _ _ _ => True.intro) ⟨_, ht, rfl⟩ (by
      rintro v hv σ st ⟨t, ht, rfl⟩
      obtain ⟨j, hj, rfl⟩ := List.mem_map.mp hv
      match t, ht with
      | a :: t, ht =>
        have hj' : j < ns.length := List.mem_range.mp hj
        obtain ⟨t2, h2, st2, e2⟩ := hb j hj' t st (by simpa using ht)
        refine ⟨_, by simp, _, st2, .inl e2, t2, h2, rfl⟩)
  exact ⟨σ', st', e1⟩
theorem toF_rt {n : Nat} {S : SI} {w : List Val} {st st' : Sto} {v : Val} (h : S (w.map some ++ List.replicate (n - w.length) none) st = .rt v st') : toF n S w st = .ok v st' := by
  unfold toF
  rw [h]
theorem law_cells {n : Nat} {body fin : SI} (hb : ∀ (ns : List Int) (W : Int), Scr ns → Bt 1048590 W → ∀ j, j < ns.length → ∀ (t : Sg) (st : Sto), t.length = n → ∃ t' : Sg, t'.length = n + 1 ∧ ∃ st', body (some (.scr (ns.map .int)) :: some (.int W) :: some (.int (j : Int)) :: t) st = .nx (some (.scr (ns.map .int)) :: some (.int W) :: t') st')
    (hf : ∀ σ st, ∃ st', fin σ st = .rt (.bl true) st') : LawHolds (toF (n + 3) (sSeq cells_sum (sSeq (sFor cells_it (.nm 2) body) fin))) := by
  intro ns hl hbits
  have hS := scr_of hl hbits
  obtain ⟨σ', st', e1⟩ := cells_loop (hb ns ns.sum hS hS.sum) (List.replicate (n + 1) none) (by simp) []
  obtain ⟨st2, e4⟩ := hf σ' st'
  refine ⟨st2, toF_rt ?_⟩
  have e : (([Val.scr (ns.map .int)].map some) ++ List.replicate (n + 3 - [Val.scr (ns.map .int)].length) none : Sg) = some (Val.scr (ns.map .int)) :: none :: List.replicate (n + 1) none := by
    simp [List.replicate_succ]
  rw [e, sSeq_nx (cells_sum_eq hl), sSeq_nx (by rw [x_sFor (cells_it_eq hl) True.intro]; exact e1), e4]
/-! ## order -/
theorem sgn_cases (x y : Rat) : (sgn x y = 1 ∧ y < x) ∨ (sgn x y = 0 ∧ x = y) ∨ (sgn x y = -1 ∧ x < y) := by
  unfold sgn
  split
  · exact .inl ⟨rfl, by assumption⟩
  · split
    · exact .inr (.inl ⟨rfl, by assumption⟩)
    · exact .inr (.inr ⟨rfl, by grind⟩)
theorem sgn_swap (x y : Rat) : sgn y x = -sgn x y := by
  rcases sgn_cases x y with ⟨a, b⟩ | ⟨a, b⟩ | ⟨a, b⟩ <;> rcases sgn_cases y x with ⟨c, d⟩ | ⟨c, d⟩ | ⟨c, d⟩ <;> rw [a, c] <;> first | rfl | grind
theorem sgn_add (x y z : Rat) : sgn (x + z) (y + z) = sgn x y := by
  rcases sgn_cases x y with ⟨a, b⟩ | ⟨a, b⟩ | ⟨a, b⟩ <;> rcases sgn_cases (x + z) (y + z) with ⟨c, d⟩ | ⟨c, d⟩ | ⟨c, d⟩ <;> rw [a, c] <;> first | rfl | grind
theorem sgn_nonneg {x y : Rat} : 0 ≤ sgn x y ↔ y ≤ x := by
  rcases sgn_cases x y with ⟨a, b⟩ | ⟨a, b⟩ | ⟨a, b⟩ <;> rw [a] <;> constructor <;> intro h <;> first | grind | omega
theorem sgn_far (x y : Rat) : (if 0 < farI x y then (1 : Int) else if farI x y = 0 then 0 else -1) = sgn x y := by
  have h1 := far_pos x y
  have h2 := far_zero x y
  unfold farI sgn
  simp only [h1, h2]
/-- a module's number, where the text's record knows it -/
theorem i_const {X : Cx} {ξ : Exo} {W : WX} {x : Str} {i : Int} {pos : Pos} (hm : ∃ t, X.mg x = some (.int i t)) (hg : Gl X x) (hd : (x == ("__debug__" : Str)) = false := by decide) : PE X (.Name x pos) (TI (gt X ξ) W (eC (.int i))) := by
  obtain ⟨t, ht⟩ := hm
  exact i_glInt hg ht hd
end
end Bd

namespace Bd
noncomputable section
open PySem L2
theorem cast_ne {b : Int} (h : b ≠ 0) : (b : Rat) ≠ 0 := fun z => h (Rat.intCast_eq_zero_iff.mp z)
theorem num_den (x : Rat) : (x.num : Rat) = x * ((x.den : Int) : Rat) := by
  have h : Rat.divInt x.num (x.den : Int) = x := Rat.num_divInt_den x
  rw [Rat.divInt_eq_div] at h
  have h2 := Rat.div_mul_cancel (a := (x.num : Rat)) (cast_ne (den_ne x))
  rw [h] at h2
  exact h2.symm
theorem divInt_of {q : Rat} {t b : Int} (h0 : b ≠ 0) (h : q * (b : Rat) = (t : Rat)) : Rat.divInt t b = q := by
  rw [Rat.divInt_eq_div, ← h]
  exact Rat.mul_div_cancel (cast_ne h0)
/-! ## two that bounce -/
theorem encQ_int (i : Int) : encQ (i : Rat) = .tup [.int i, .int 1] := by unfold encQ; rw [Rat.num_intCast, Rat.den_intCast]; rfl
theorem encQ_int' (i : Int) : Val.tup [.int i, .int 1] = encQ (i : Rat) := (encQ_int i).symm
/-- twice the speed of the middle -/
def twice (a b : Int) (x y : Rat) : Rat := 2 * ((a : Rat) * x + (b : Rat) * y) / ((a : Rat) + (b : Rat))
theorem wsum_ne {a b : Int} (ha : 0 < a) (hb : 0 < b) : ((a : Rat) + (b : Rat)) ≠ 0 := by
  rw [← Rat.intCast_add]
  intro h
  have := Rat.intCast_eq_zero_iff.mp h
  omega
theorem twice_mul {a b : Int} (ha : 0 < a) (hb : 0 < b) (x y : Rat) : twice a b x y * ((a : Rat) + (b : Rat)) = 2 * ((a : Rat) * x + (b : Rat) * y) := by
  unfold twice
  exact Rat.div_mul_cancel (wsum_ne ha hb)
theorem twice_of {a b : Int} (ha : 0 < a) (hb : 0 < b) {x y t : Rat} (h : t * ((a : Rat) + (b : Rat)) = 2 * ((a : Rat) * x + (b : Rat) * y)) : twice a b x y = t := by
  have h2 := twice_mul ha hb x y
  have h3 := wsum_ne ha hb
  rw [← h] at h2
  have h4 : (twice a b x y - t) * ((a : Rat) + (b : Rat)) = 0 := by grind
  rcases Rat.mul_eq_zero.mp h4 with h | h
  · grind
  · exact absurd h h3
theorem twice_again {a b : Int} (ha : 0 < a) (hb : 0 < b) (x y : Rat) : twice a b (twice a b x y - x) (twice a b x y - y) = twice a b x y := by
  have h := twice_mul ha hb x y
  apply twice_of ha hb
  grind
theorem twice_swap {a b : Int} (ha : 0 < a) (hb : 0 < b) (x y : Rat) : twice b a y x = twice a b x y := by
  have h := twice_mul ha hb x y
  apply twice_of hb ha
  grind
theorem twice_alike {a : Int} (ha : 0 < a) (x y : Rat) : twice a a x y = x + y := by
  apply twice_of ha ha
  grind
theorem twice_lift {a b : Int} (ha : 0 < a) (hb : 0 < b) (x y z : Rat) : twice a b (x + z) (y + z) = twice a b x y + 2 * z := by
  have h := twice_mul ha hb x y
  apply twice_of ha hb
  grind
theorem drive_kept {a b : Int} (ha : 0 < a) (hb : 0 < b) (x y : Rat) : (a : Rat) * (twice a b x y - x) + (b : Rat) * (twice a b x y - y) = (a : Rat) * x + (b : Rat) * y := by
  have h := twice_mul ha hb x y
  grind
theorem square_kept {a b : Int} (ha : 0 < a) (hb : 0 < b) (x y : Rat) : (a : Rat) * ((twice a b x y - x) * (twice a b x y - x)) + (b : Rat) * ((twice a b x y - y) * (twice a b x y - y)) = (a : Rat) * (x * x) + (b : Rat) * (y * y) := by
  have h := twice_mul ha hb x y
  grind
/-- a weight -/
structure Wt (a : Int) : Prop where
  pos : 0 < a
  le : a ≤ 60
theorem Wt.bt {a : Int} (h : Wt a) : Bt 6 a := bt_of (b := 60) (by have := h.pos; omega) h.le (by unfold Bt; decide)
theorem Wt.sq {a : Int} (h : Wt a) : Sq 6 (a : Rat) := Sq.int h.bt
theorem check_weight_eq {a : Int} (h : Wt a) : pure' F_check_weight [.int a] = .ok .non [] := by
  have h1 : 1 ≤ a := h.pos
  have h2 := h.le
  exact pure_nx (st := []) (σ := [some (.int a)]) (by simp [S_check_weight, number_int, h1, h2])
theorem Sq.twice {n : Nat} {a b : Int} {x y : Rat} (ha : Wt a) (hb : Wt b) (hx : Sq n x) (hy : Sq n y) : Sq (2 * n + 25) (twice a b x y) ∧ Bt (2 * n + 25) (2 * ((a : Rat) * x + (b : Rat) * y).num) ∧ Bt (2 * n + 25) ((((a : Rat) * x + (b : Rat) * y).den : Int) * (a + b)) ∧
    Rat.divInt (2 * ((a : Rat) * x + (b : Rat) * y).num) ((((a : Rat) * x + (b : Rat) * y).den : Int) * (a + b)) = Bd.twice a b x y := by
  have p := (ha.sq.mul hx).add (hb.sq.mul hy)
  generalize hp : (a : Rat) * x + (b : Rat) * y = P at p
  have h0 : 0 < a + b := by have := ha.pos; have := hb.pos; omega
  have e : Rat.divInt (2 * P.num) ((P.den : Int) * (a + b)) = Bd.twice a b x y := by
    apply divInt_of (Int.mul_ne_zero (den_ne P) (by omega))
    have h1 := twice_mul ha.pos hb.pos x y
    have h2 := num_den P
    rw [hp] at h1
    simp only [Rat.intCast_mul, Rat.intCast_add, Rat.intCast_ofNat]
    grind
  have b1 : Bt (2 * n + 25) (2 * P.num) := ((by unfold Bt; decide : Bt 2 2).mul p.bn).mono (by omega)
  have b2 : Bt (2 * n + 25) ((P.den : Int) * (a + b)) := (p.bd.mul (ha.bt.add hb.bt)).mono (by omega)
  refine ⟨?_, b1, b2, e⟩
  rw [← e]
  exact Sq.divInt b1 b2 (Int.mul_ne_zero (den_ne P) (by omega))
theorem turned_over_eq {n : Nat} {a b : Int} {x y : Rat} (ha : Wt a) (hb : Wt b) (hx : Sq n x) (hy : Sq n y) (hn : n ≤ 2000) : pure' F_turned_over [.int a, .int b, encQ x, encQ y] = .ok (.tup [encQ (twice a b x y - x), encQ (twice a b x y - y)]) [] := by
  have p1 := product_eq (ha.sq.sz hx (by omega))
  have p2 := product_eq (hb.sq.sz hy (by omega))
  have p3 := added_eq ((ha.sq.mul hx).sz (hb.sq.mul hy) (by omega))
  obtain ⟨q, b1, b2, e⟩ := Sq.twice ha hb hx hy
  have h0 : 0 < a + b := by have := ha.pos; have := hb.pos; omega
  have p := (ha.sq.mul hx).add (hb.sq.mul hy)
  rw [encQ_int] at p1 p2
  generalize (a : Rat) * x + (b : Rat) * y = P at *
  have m1 : mulOk 2 P.num = true := (by unfold Bt; decide : Bt 2 2).ok p.bn (by omega)
  have m2 : mulOk (P.den : Int) (a + b) = true := p.bd.ok (ha.bt.add hb.bt) (by omega)
  have l := lowest_eq (t := 2 * P.num) (b := (P.den : Int) * (a + b)) (Int.mul_ne_zero (den_ne P) (by omega)) (b2.mono (m := 8999) (by omega))
  rw [e] at l
  have e1 := less_eq (q.sz hx (by omega))
  have e2 := less_eq (q.sz hy (by omega))
  exact pure_rt (st := []) (v := .tup [encQ (twice a b x y - x), encQ (twice a b x y - y)]) (by simp [S_turned_over, p1, p2, p3, m1, m2, l, e1, e2]) (by simp)
theorem bounced_eq {n : Nat} {a b : Int} {x y : Rat} (ha : Wt a) (hb : Wt b) (hx : Sq n x) (hy : Sq n y) (hn : n ≤ 2000) : pure' F_bounced [.int a, .int b, encQ x, encQ y] = .ok (.tup [encQ (twice a b x y - x), encQ (twice a b x y - y)]) [] := by
  have e := turned_over_eq ha hb hx hy hn
  exact pure_rt (st := []) (v := .tup [encQ (twice a b x y - x), encQ (twice a b x y - y)]) (by simp [S_bounced, check_weight_eq ha, check_weight_eq hb, check_share_eq, e]) (by simp)
theorem law_drive_eq {n : Nat} {a b : Int} {x y : Rat} (ha : Wt a) (hb : Wt b) (hx : Sq n x) (hy : Sq n y) (hn : n ≤ 2000) : pure' F_law_drive [.int a, .int b, encQ x, encQ y, .bl false] = .ok (encQ ((a : Rat) * x + (b : Rat) * y)) [] := by
  have p1 := law_by_eq (ha.sq.sz hx (by omega))
  have p2 := law_by_eq (hb.sq.sz hy (by omega))
  have p3 := law_sum_eq ((ha.sq.mul hx).sz (hb.sq.mul hy) (by omega))
  rw [encQ_int] at p1 p2
  exact pure_rt (st := []) (v := encQ ((a : Rat) * x + (b : Rat) * y)) (by simp [S_law_drive, p1, p2, p3]) (by simp)
theorem law_drive2_eq {n : Nat} {a b : Int} {x y : Rat} (ha : Wt a) (hb : Wt b) (hx : Sq n x) (hy : Sq n y) (hn : n ≤ 1000) : pure' F_law_drive [.int a, .int b, encQ x, encQ y, .bl true] = .ok (encQ ((a : Rat) * (x * x) + (b : Rat) * (y * y))) [] := by
  have q1 := law_by_eq (hx.sz hx (by omega))
  have q2 := law_by_eq (hy.sz hy (by omega))
  have p1 := law_by_eq (ha.sq.sz (hx.mul hx) (by omega))
  have p2 := law_by_eq (hb.sq.sz (hy.mul hy) (by omega))
  have p3 := law_sum_eq ((ha.sq.mul (hx.mul hx)).sz (hb.sq.mul (hy.mul hy)) (by omega))
  rw [encQ_int] at p1 p2
  exact pure_rt (st := []) (v := encQ ((a : Rat) * (x * x) + (b : Rat) * (y * y))) (by simp [S_law_drive, q1, q2, p1, p2, p3]) (by simp)
end
end Bd

namespace Bd
noncomputable section
open PySem L2
/-! ## lists that are maps -/
theorem toDs_map {α : Type} {f : α → Val} {g : α → PyData} {st : Sto} {n : Nat} : ∀ {l : List α}, (∀ x ∈ l, toD st (n + 1) (f x) = some (g x)) → toDs st (n + 2) (l.map f) = some (l.map g)
  | [], _ => by simp
  | x :: l, h => by
    have h1 := h x (by simp)
    have h2 := toDs_map (l := l) fun y hy => h y (by simp [hy])
    rw [List.map_cons, ds_cons, h1, h2]
    rfl
theorem eqvAll_map {α : Type} [DecidableEq α] {g : α → PyData} (h : ∀ x y, PyData.eqv (g x) (g y) = decide (x = y)) : ∀ l l' : List α, PyData.eqvAll (l.map g) (l'.map g) = decide (l = l')
  | [], [] => by simp
  | [], y :: l' => by simp
  | x :: l, [] => by simp
  | x :: l, y :: l' => by
    rw [List.map_cons, List.map_cons, q_cons, h, eqvAll_map h l l']
    simp
/-- a share as data -/
def pdQ (q : Rat) : PyData := .tuple [.int q.num, .int (q.den : Int)]
theorem toD_pdQ {st : Sto} {n : Nat} {q : Rat} : toD st (n + 3) (encQ q) = some (pdQ q) := d_encQ
theorem eqv_pdQ (x y : Rat) : PyData.eqv (pdQ x) (pdQ y) = decide (x = y) := by
  unfold pdQ
  rw [q_tup, q_cons, q_cons, q_nil, q_int, q_int, Bool.and_true]
  exact eqv_encQ
theorem eqv_int (x y : Int) : PyData.eqv (.int x) (.int y) = decide (x = y) := by
  rw [q_int]
  by_cases h : x = y <;> simp [h]
@[simp] theorem toDs_ints {st : Sto} {n : Nat} {l : List Int} : toDs st (n + 2) (l.map .int) = some (l.map .int) := toDs_map fun _ _ => by simp
@[simp] theorem toDs_shares {st : Sto} {n : Nat} {l : List Rat} : toDs st (n + 4) (l.map encQ) = some (l.map pdQ) := toDs_map fun _ _ => toD_pdQ
@[simp] theorem eqv_ints {l l' : List Int} : PyData.eqvAll (l.map .int) (l'.map .int) = decide (l = l') := eqvAll_map eqv_int l l'
@[simp] theorem eqv_shares {l l' : List Rat} : PyData.eqvAll (l.map pdQ) (l'.map pdQ) = decide (l = l') := eqvAll_map eqv_pdQ l l'
@[simp] theorem eqv_mapnil {α : Type} {f : α → PyData} {l : List α} : PyData.eqvAll (l.map f) [] = l.isEmpty := by cases l <;> simp
theorem rds_map {α : Type} {f : α → Val} {st : Sto} {n : Nat} : ∀ {l : List α}, (∀ x ∈ l, rd st n (f x) = some (f x)) → rds st (n + 1) (l.map f) = some (l.map f)
  | [], _ => by simp
  | x :: l, h => by
    have h1 := h x (by simp)
    have h2 := rds_map (l := l) fun y hy => h y (by simp [hy])
    rw [List.map_cons, rs_cons, h1, h2]
@[simp] theorem rds_ints {st : Sto} {n : Nat} {l : List Int} : rds st (n + 2) (l.map .int) = some (l.map .int) := rds_map fun _ _ => by simp
@[simp] theorem rds_shares {st : Sto} {n : Nat} {l : List Rat} : rds st (n + 4) (l.map encQ) = some (l.map encQ) := rds_map fun _ _ => rd_encQ
theorem flats_map {α : Type} {f : α → Val} (h : ∀ x, flat (f x) = true) : ∀ l : List α, flats (l.map f) = true
  | [] => by simp [flats]
  | x :: l => by simp [flats, h x, flats_map h l]
@[simp] theorem flats_ints {l : List Int} : flats (l.map .int) = true := flats_map (fun _ => by simp [flat]) l
@[simp] theorem flats_shares {l : List Rat} : flats (l.map encQ) = true := flats_map (fun _ => flat_encQ) l
@[simp] theorem flats_reverse {l : List Val} : flats l.reverse = flats l := by rw [flats_all, flats_all, List.all_reverse]
/-- a comprehension that changes nothing -/
theorem compL_map {α : Type} {t : Tg} {own : List Nat} {c : BI} {f : EI} {still : Sto → Prop} {σ : Sg} {st : Sto} {g h : α → Val} {p : α → Bool} (hs : still st) : ∀ {l : List α} {acc : List Val},
    (∀ x ∈ l, ∃ σ1, Tg.st st t (g x) (wipeI σ own) = some σ1 ∧ c σ1 st = .ok (p x) st ∧ (p x = true → f σ1 st = .ok (h x) st)) → compL t own c f still σ (l.map g) acc st = .ok (acc ++ (l.filter p).map h) st
  | [], acc, _ => by simp [compL]
  | x :: l, acc, H => by
    obtain ⟨σ1, e1, e2, e3⟩ := H x (by simp)
    have ih := fun acc => compL_map hs (l := l) (acc := acc) fun y hy => H y (by simp [hy])
    rw [List.map_cons, compL, e1]
    dsimp only
    rw [e2]
    by_cases hp : p x = true
    · have e4 := e3 hp
      simp [noer, hp, e4, hs, ih, Out.bind]
    · simp [noer, hp, hs, ih, Out.bind]
theorem eComp_map {α : Type} {it : II} {t : Tg} {own : List Nat} {c : BI} {f : EI} {still : Sto → Prop} {σ : Sg} {st : Sto} {g h : α → Val} {p : α → Bool} {l : List α} (hi : it σ st = .ok (l.map g, still) st) (hs : still st) (hl : l.length ≤ 1000000)
    (H : ∀ x ∈ l, ∃ σ1, Tg.st st t (g x) (wipeI σ own) = some σ1 ∧ c σ1 st = .ok (p x) st ∧ (p x = true → f σ1 st = .ok (h x) st)) : eComp it t own c f σ st = .ok (.lst ((l.filter p).map h)) st := by
  rw [x_eComp hi hs (small_of.mpr (by simpa using hl)), compL_map hs H]
  simp [Out.bind]
/-- a for that changes nothing but slots -/
theorem forL_map {α : Type} {t : Tg} {body : SI} {still : Sto → Prop} {st : Sto} {g : α → Val} (P : List α → Sg → Prop) (hs : still st) : ∀ {l d : List α} {σ : Sg}, P d σ →
    (∀ x ∈ l, ∀ d σ, P d σ → ∃ σ1, Tg.st st t (g x) σ = some σ1 ∧ ∃ σ2, body σ1 st = .nx σ2 st ∧ P (d ++ [x]) σ2) → ∃ σ', forL t body still (l.map g) σ st = .nx σ' st ∧ P (d ++ l) σ'
  | [], d, σ, h0, _ => ⟨σ, by simp, by simpa using h0⟩
  | x :: l, d, σ, h0, H => by
    obtain ⟨σ1, e1, σ2, e2, h2⟩ := H x (by simp) d σ h0
    obtain ⟨σ', e3, h3⟩ := forL_map P hs (l := l) (d := d ++ [x]) (σ := σ2) h2 fun y hy => H y (by simp [hy])
    refine ⟨σ', ?_, by simpa using h3⟩
    rw [List.map_cons, forL_cons, e1]
    dsimp only
    rw [e2]
    simp [hs, e3]
theorem zipV_map {α β : Type} {f : α → Val} {g : β → Val} : ∀ {l : List α} {l' : List β}, zipV (l.map f) (l'.map g) = (l.zip l').map fun p => .tup [f p.1, g p.2]
  | [], l' => by simp [zipV]
  | x :: l, [] => by simp [zipV]
  | x :: l, y :: l' => by simp [zipV, zipV_map (l := l) (l' := l')]
end
end Bd

namespace Bd
noncomputable section
open PySem L2
/-! ## middles: weights and shares in pairs -/
def dot : List (Int × Rat) → Rat
  | [] => 0
  | p :: l => (p.1 : Rat) * p.2 + dot l
def wsum : List (Int × Rat) → Int
  | [] => 0
  | p :: l => p.1 + wsum l
/-- a weight of some beads together -/
structure Ws (w : Int) : Prop where
  pos : 0 < w
  le : w ≤ 1000
theorem Wt.ws {w : Int} (h : Wt w) : Ws w := ⟨h.pos, by have := h.le; omega⟩
theorem Ws.bt {w : Int} (h : Ws w) : Bt 10 w := bt_of (b := 1000) (by have := h.pos; omega) h.le (by unfold Bt; decide)
theorem Ws.sq {w : Int} (h : Ws w) : Sq 10 (w : Rat) := Sq.int h.bt
theorem dot_append (l l' : List (Int × Rat)) : dot (l ++ l') = dot l + dot l' := by
  induction l with
  | nil => simp [dot, Rat.zero_add]
  | cons p l ih => simp only [List.cons_append, dot, ih]; grind
theorem wsum_append (l l' : List (Int × Rat)) : wsum (l ++ l') = wsum l + wsum l' := by
  induction l with
  | nil => simp [wsum]
  | cons p l ih => simp only [List.cons_append, wsum, ih]; omega
theorem dot_reverse (l : List (Int × Rat)) : dot l.reverse = dot l := by
  induction l with
  | nil => rfl
  | cons p l ih => rw [List.reverse_cons, dot_append, ih]; simp only [dot]; grind
theorem wsum_reverse (l : List (Int × Rat)) : wsum l.reverse = wsum l := by
  induction l with
  | nil => rfl
  | cons p l ih => rw [List.reverse_cons, wsum_append, ih]; simp only [wsum]; omega
theorem wsum_sum (l : List (Int × Rat)) : (l.map (·.1)).sum = wsum l := by
  induction l with
  | nil => rfl
  | cons p l ih => rw [List.map_cons, List.sum_cons, ih]; rfl
/-- the middle -/
def mid (l : List (Int × Rat)) : Rat := dot l / (wsum l : Rat)
theorem wsum_pos : ∀ {l : List (Int × Rat)}, (∀ p ∈ l, Ws p.1) → l ≠ [] → 0 < wsum l
  | [p], h, _ => by have := (h p (by simp)).pos; simp only [wsum]; omega
  | p :: q :: l, h, _ => by
    have h1 := (h p (by simp)).pos
    have h2 := wsum_pos (l := q :: l) (fun r hr => h r (by simp [List.mem_cons.mp hr])) (by simp)
    rw [wsum]
    omega
theorem wsum_le : ∀ {l : List (Int × Rat)}, (∀ p ∈ l, Ws p.1) → 0 ≤ wsum l ∧ wsum l ≤ 1000 * (l.length : Int)
  | [], _ => by simp [wsum]
  | p :: l, h => by
    have h1 := h p (by simp)
    have h2 := wsum_le (l := l) fun r hr => h r (by simp [hr])
    have := h1.pos
    have := h1.le
    simp only [wsum, List.length_cons]
    omega
theorem wsum_bt {l : List (Int × Rat)} (h : ∀ p ∈ l, Ws p.1) (hl : l.length ≤ 4000) : Bt 23 (wsum l) := by
  have := wsum_le h
  exact bt_of (b := 4000000) (by omega) (by omega) (by unfold Bt; decide)
theorem mid_mul {l : List (Int × Rat)} (h : ∀ p ∈ l, Ws p.1) (hn : l ≠ []) : mid l * (wsum l : Rat) = dot l := by
  have := wsum_pos h hn
  exact Rat.div_mul_cancel (cast_ne (by omega))
theorem mid_of {l : List (Int × Rat)} (h : ∀ p ∈ l, Ws p.1) (hn : l ≠ []) {m : Rat} (e : m * (wsum l : Rat) = dot l) : mid l = m := by
  have := wsum_pos h hn
  unfold mid
  rw [← e]
  exact Rat.mul_div_cancel (cast_ne (by omega))
theorem wpos {w : Int} (h : 0 < w) : (0 : Rat) < (w : Rat) := Rat.intCast_pos.mpr h
/-- some are no less than the middle -/
theorem dot_lt {m : Rat} : ∀ {l : List (Int × Rat)}, (∀ p ∈ l, Ws p.1) → l ≠ [] → (∀ p ∈ l, p.2 < m) → dot l < m * (wsum l : Rat)
  | [p], h, _, hm => by
    have h1 := Rat.mul_lt_mul_of_pos_left (hm p (by simp)) (wpos (h p (by simp)).pos)
    simp only [dot, wsum, Int.add_zero]
    grind
  | p :: q :: l, h, _, hm => by
    have h1 := Rat.mul_lt_mul_of_pos_left (hm p (by simp)) (wpos (h p (by simp)).pos)
    have h2 := dot_lt (l := q :: l) (fun r hr => h r (by simp [List.mem_cons.mp hr])) (by simp) (fun r hr => hm r (by simp [List.mem_cons.mp hr]))
    rw [dot, wsum, Rat.intCast_add]
    grind
theorem dot_gt {m : Rat} : ∀ {l : List (Int × Rat)}, (∀ p ∈ l, Ws p.1) → l ≠ [] → (∀ p ∈ l, m < p.2) → m * (wsum l : Rat) < dot l
  | [p], h, _, hm => by
    have h1 := Rat.mul_lt_mul_of_pos_left (hm p (by simp)) (wpos (h p (by simp)).pos)
    simp only [dot, wsum, Int.add_zero]
    grind
  | p :: q :: l, h, _, hm => by
    have h1 := Rat.mul_lt_mul_of_pos_left (hm p (by simp)) (wpos (h p (by simp)).pos)
    have h2 := dot_gt (l := q :: l) (fun r hr => h r (by simp [List.mem_cons.mp hr])) (by simp) (fun r hr => hm r (by simp [List.mem_cons.mp hr]))
    rw [dot, wsum, Rat.intCast_add]
    grind
theorem mid_ge {l : List (Int × Rat)} (h : ∀ p ∈ l, Ws p.1) (hn : l ≠ []) : ∃ p ∈ l, mid l ≤ p.2 := by
  apply Classical.byContradiction
  intro hc
  have h1 := dot_lt (m := mid l) h hn fun p hp => Rat.not_le.mp fun z => hc ⟨p, hp, z⟩
  rw [mid_mul h hn] at h1
  exact Rat.lt_irrefl h1
theorem mid_le {l : List (Int × Rat)} (h : ∀ p ∈ l, Ws p.1) (hn : l ≠ []) : ∃ p ∈ l, p.2 ≤ mid l := by
  apply Classical.byContradiction
  intro hc
  have h1 := dot_gt (m := mid l) h hn fun p hp => Rat.not_le.mp fun z => hc ⟨p, hp, z⟩
  rw [mid_mul h hn] at h1
  exact Rat.lt_irrefl h1
/-! sizes -/
theorem Sq.dot {n : Nat} : ∀ {l : List (Int × Rat)}, (∀ p ∈ l, Ws p.1 ∧ Sq n p.2) → Sq (l.length * (n + 11) + 1) (dot l)
  | [], _ => Sq.mono (n := 1) ⟨by decide +kernel, by decide +kernel⟩ (by omega)
  | p :: l, h => by
    have h1 := h p (by simp)
    have h2 := Sq.dot (l := l) fun r hr => h r (by simp [hr])
    rw [Bd.dot]
    exact ((h1.1.sq.mul h1.2).add h2).mono (by rw [List.length_cons, Nat.succ_mul]; omega)
theorem Sq.mid {n : Nat} {l : List (Int × Rat)} (h : ∀ p ∈ l, Ws p.1 ∧ Sq n p.2) (hn : l ≠ []) (hl : l.length ≤ 4000) : Sq (l.length * (n + 11) + 24) (mid l) := by
  have h1 := wsum_bt (fun p hp => (h p hp).1) hl
  have h2 := wsum_pos (fun p hp => (h p hp).1) hn
  exact (Sq.div (Sq.dot h) (Sq.int (n := 22) h1) (cast_ne (by omega))).mono (by omega)
/-! ## the sums by a loop -/
theorem dot_loop {n : Nat} {body : SI} {still : Sto → Prop} {s0 s1 : Option Val} {tail : Sg} {st : Sto} (hst : still st)
    (hb : ∀ (acc : Rat) (w : Int) (x : Rat), Sq 6000 acc → Ws w → Sq n x → body (s0 :: s1 :: some (encQ acc) :: some (.int w) :: some (encQ x) :: tail) st = .nx (s0 :: s1 :: some (encQ (acc + (w : Rat) * x)) :: some (.int w) :: some (encQ x) :: tail) st) :
    ∀ {l : List (Int × Rat)} {a : Nat} {acc : Rat} {s3 s4 : Option Val}, (∀ p ∈ l, Ws p.1 ∧ Sq n p.2) → Sq a acc → a + l.length * (n + 11) ≤ 6000 →
      ∃ t3 t4, forL (.tp [.nm 3, .nm 4]) body still (l.map fun p => .tup [.int p.1, encQ p.2]) (s0 :: s1 :: some (encQ acc) :: s3 :: s4 :: tail) st = .nx (s0 :: s1 :: some (encQ (acc + dot l)) :: t3 :: t4 :: tail) st
  | [], a, acc, s3, s4, _, _, _ => ⟨s3, s4, by simp [dot, Rat.add_zero]⟩
  | p :: l, a, acc, s3, s4, h, ha, hs => by
    rw [List.length_cons, Nat.succ_mul] at hs
    have h1 := h p (by simp)
    have e := hb acc p.1 p.2 (ha.mono (by omega)) h1.1 h1.2
    obtain ⟨t3, t4, e2⟩ := dot_loop hst hb (l := l) (a := a + (n + 11)) (acc := acc + (p.1 : Rat) * p.2) (s3 := some (.int p.1)) (s4 := some (encQ p.2)) (fun r hr => h r (by simp [hr])) ((ha.add (h1.1.sq.mul h1.2)).mono (by omega)) (by omega)
    refine ⟨t3, t4, ?_⟩
    rw [List.map_cons, forL_cons]
    simp [e, hst, e2, dot, Rat.add_assoc]
def wpart (l : List (Int × Rat)) : List Int := l.map (·.1)
def xpart (l : List (Int × Rat)) : List Rat := l.map (·.2)
theorem zip_parts (l : List (Int × Rat)) : zipV ((wpart l).map .int) ((xpart l).map encQ) = l.map fun p => .tup [.int p.1, encQ p.2] := by
  rw [zipV_map]
  unfold wpart xpart
  induction l with
  | nil => rfl
  | cons p l ih => simp only [List.map_cons, List.zip_cons_cons, ih]
theorem fold_int1 (i : Int) : Val.tup [.int i, .int 1] = encQ (i : Rat) := encQ_int' i
theorem len_mul {n k : Nat} (hn : n ≤ 400) (hk : k ≤ 12) : k * (n + 11) ≤ 4932 := Nat.le_trans (Nat.mul_le_mul hk (show n + 11 ≤ 411 by omega)) (by decide)
theorem sum_wpart (l : List (Int × Rat)) : (wpart l).sum = wsum l := wsum_sum l
theorem together_eq' {n : Nat} {l : List (Int × Rat)} (h : ∀ p ∈ l, Ws p.1 ∧ Sq n p.2) (hn : l ≠ []) (hn4 : n ≤ 400) (hz : l.length * (n + 11) ≤ 4932) (hl : l.length ≤ 4000) : pure' F_together_of [.lst ((wpart l).map .int), .lst ((xpart l).map encQ)] = .ok (encQ (mid l)) [] := by
  obtain ⟨t3, t4, e⟩ := dot_loop (n := n) (body := (sAsg (.nm 2) (eCallP F_added [] (aCons (eVar 2) (aCons (eCallP F_product [] (aCons (eTup (aCons (eVar 3) (aCons (eC (.int 1)) aNil))) (aCons (eVar 4) aNil))) aNil)))))
    (still := fun st' => listOf st' (.lst ((wpart l).map .int)) = some ((wpart l).map .int) ∧ listOf st' (.lst ((xpart l).map encQ)) = some ((xpart l).map encQ)) (s0 := some (.lst ((wpart l).map .int))) (s1 := some (.lst ((xpart l).map encQ))) (tail := []) (st := [])
    ⟨rfl, rfl⟩ (fun acc w x q1 q2 q3 => by
      have p1 := product_eq (q2.sq.sz q3 (by omega))
      have p2 := added_eq (q1.sz (q2.sq.mul q3) (by omega))
      simp [fold_int1, p1, p2]) h (a := 1) (acc := 0) (s3 := none) (s4 := none) ⟨by decide +kernel, by decide +kernel⟩ (by omega)
  rw [← zip_parts, Rat.zero_add] at e
  simp at e
  have hw := wsum_pos (fun p hp => (h p hp).1) hn
  have q := quotient_eq ((Sq.dot h).sz (Sq.int (n := 22) (wsum_bt (fun p hp => (h p hp).1) (by omega))) (by omega)) (cast_ne (show wsum l ≠ 0 by omega))
  refine pure_rt (st := []) (v := encQ (mid l)) ?_ (by simp)
  simp [S_together_of, e, intsOf_map, sum_wpart, fold_int1, q]
  rfl
theorem together_eq {n : Nat} {l : List (Int × Rat)} (h : ∀ p ∈ l, Ws p.1 ∧ Sq n p.2) (hn : l ≠ []) (hn4 : n ≤ 400) (hl : l.length ≤ 12) : pure' F_together_of [.lst ((wpart l).map .int), .lst ((xpart l).map encQ)] = .ok (encQ (mid l)) [] := together_eq' h hn hn4 (len_mul hn4 hl) (by omega)
/-- a for that only looks -/
theorem look_loop {α : Type} {i : Nat} {body : SI} {still : Sto → Prop} {st : Sto} {g : α → Val} (hs : still st) : ∀ {l : List α} {σ : Sg}, (∀ x ∈ l, ∀ σ : Sg, σ.length = i → True) → (∀ x ∈ l, ∀ σ : Sg, σ[i]? = some (some (g x)) → body σ st = .nx σ st) → i < σ.length → ∃ v, forL (.nm i) body still (l.map g) σ st = .nx (σ.set i v) st
  | [], σ, _, _, hi => ⟨σ[i], by simp⟩
  | x :: l, σ, h0, h, hi => by
    obtain ⟨v, e⟩ := look_loop hs (l := l) (σ := σ.set i (some (g x))) (fun y hy => h0 y (by simp [hy])) (fun y hy => h y (by simp [hy])) (by simpa using hi)
    refine ⟨v, ?_⟩
    have e1 := h x (by simp) (σ.set i (some (g x))) (by simp [hi])
    rw [List.map_cons, forL_cons, x_nm]
    dsimp only
    rw [e1]
    simp [hs, e]
theorem stuck_eq' {n : Nat} {l : List (Int × Rat)} (h : ∀ p ∈ l, Wt p.1 ∧ Sq n p.2) (hn : l ≠ []) (hn4 : n ≤ 400) (hz : l.length * (n + 11) ≤ 4932) (hl : l.length ≤ 4000) : pure' F_stuck [.lst ((wpart l).map .int), .lst ((xpart l).map encQ)] = .ok (encQ (mid l)) [] := by
  have e := together_eq' (fun p hp => ⟨(h p hp).1.ws, (h p hp).2⟩) hn hn4 hz hl
  obtain ⟨v, e1⟩ := look_loop (i := 2) (body := sExpr (eCallP F_check_weight [] (aCons (eVar 2) aNil))) (still := fun st' => seqOf st' (.lst ((wpart l).map .int)) = some ((wpart l).map .int)) (st := []) (g := Val.int) (l := wpart l) (σ := [some (.lst ((wpart l).map .int)), some (.lst ((xpart l).map encQ)), none, none]) rfl (fun _ _ _ _ => trivial)
    (fun w hw σ hσ => by
      obtain ⟨p, hp, rfl⟩ := List.mem_map.mp hw
      simp [hσ, check_weight_eq (h p hp).1]) (by simp)
  obtain ⟨v2, e2⟩ := look_loop (i := 3) (body := sExpr (eCallP F_check_share [] (aCons (eVar 3) aNil))) (still := fun st' => seqOf st' (.lst ((xpart l).map encQ)) = some ((xpart l).map encQ)) (st := []) (g := encQ) (l := xpart l) (σ := [some (.lst ((wpart l).map .int)), some (.lst ((xpart l).map encQ)), v, none]) rfl (fun _ _ _ _ => trivial)
    (fun w hw σ hσ => by simp [hσ, check_share_eq]) (by simp)
  have hw : (wpart l).isEmpty = false := by cases l <;> simp_all [wpart]
  have hw2 : ¬ wpart l = [] := fun e => by rw [e] at hw; cases hw
  have hlen : (xpart l).length = (wpart l).length := by simp [wpart, xpart]
  simp at e1 e2
  refine pure_rt (st := []) (v := encQ (mid l)) ?_ (by simp)
  simp [S_stuck, hw, hw2, e1, e2, hlen, e]
theorem stuck_eq {n : Nat} {l : List (Int × Rat)} (h : ∀ p ∈ l, Wt p.1 ∧ Sq n p.2) (hn : l ≠ []) (hn4 : n ≤ 400) (hl : l.length ≤ 12) : pure' F_stuck [.lst ((wpart l).map .int), .lst ((xpart l).map encQ)] = .ok (encQ (mid l)) [] := stuck_eq' h hn hn4 (len_mul hn4 hl) (by omega)
end
end Bd

namespace Bd
noncomputable section
open PySem L2
/-! ## beads, rows -/
structure Bead where
  w : Int
  p : Rat
  v : Rat
  deriving DecidableEq
instance : Inhabited Bead := ⟨⟨1, 0, 0⟩⟩
def nb (l : List Bead) (i : Nat) : Bead := l.getD i default
def encB (b : Bead) : Val := .tup [.int b.w, encQ b.p, encQ b.v]
def pdB (b : Bead) : PyData := .tuple [.int b.w, pdQ b.p, pdQ b.v]
/-- a share that a row may have -/
structure Mild (x : Rat) : Prop where
  n : x.num.natAbs ≤ 1000000
  d : x.den ≤ 60
theorem Mild.sq {x : Rat} (h : Mild x) : Sq 20 x := ⟨Nat.lt_of_le_of_lt h.n (by decide), Nat.lt_of_le_of_lt h.d (by decide)⟩
structure BeadOk (b : Bead) : Prop where
  w : Wt b.w
  p : Mild b.p
  v : Mild b.v
structure RowOk (l : List Bead) : Prop where
  ne : l ≠ []
  len : l.length ≤ 10
  ok : ∀ b ∈ l, BeadOk b
  asc : ∀ i, i + 1 < l.length → (nb l i).p < (nb l (i + 1)).p
@[simp] theorem seq_encB {st : Sto} {b : Bead} : seqOf st (encB b) = some [.int b.w, encQ b.p, encQ b.v] := rfl
@[simp] theorem b_ix0 {st : Sto} {b : Bead} : kIx (encB b) (.int 0) st = .ok (.int b.w) st := by simp
@[simp] theorem b_ix1 {st : Sto} {b : Bead} : kIx (encB b) (.int 1) st = .ok (encQ b.p) st := by simp
@[simp] theorem b_ix2 {st : Sto} {b : Bead} : kIx (encB b) (.int 2) st = .ok (encQ b.v) st := by simp
@[simp] theorem d_encB {st : Sto} {n : Nat} {b : Bead} : toD st (n + 6) (encB b) = some (pdB b) := by simp [encB, pdB, pdQ]
@[simp] theorem rd_encB {st : Sto} {n : Nat} {b : Bead} : rd st (n + 6) (encB b) = some (encB b) := by simp [encB]
@[simp] theorem flat_encB {b : Bead} : flat (encB b) = true := by simp [encB]
@[simp] theorem tight_encB {b : Bead} : tight (encB b) = true := by simp [encB]
@[simp] theorem isi_encB {st : Sto} {b : Bead} {t : BT} : isi st (encB b) t = some (decide (t = .tuple)) := rfl
theorem eqv_pdB (x y : Bead) : PyData.eqv (pdB x) (pdB y) = decide (x = y) := by
  unfold pdB
  rw [q_tup, q_cons, q_cons, q_cons, q_nil, eqv_pdQ, eqv_pdQ, eqv_int, Bool.and_true]
  obtain ⟨a, b, c⟩ := x
  obtain ⟨d, e, f⟩ := y
  simp only [Bead.mk.injEq]
  by_cases h1 : a = d <;> by_cases h2 : b = e <;> by_cases h3 : c = f <;> simp [h1, h2, h3]
@[simp] theorem toDs_beads {st : Sto} {n : Nat} {l : List Bead} : toDs st (n + 7) (l.map encB) = some (l.map pdB) := toDs_map fun _ _ => d_encB
@[simp] theorem eqv_beads {l l' : List Bead} : PyData.eqvAll (l.map pdB) (l'.map pdB) = decide (l = l') := eqvAll_map eqv_pdB l l'
@[simp] theorem rds_beads {st : Sto} {n : Nat} {l : List Bead} : rds st (n + 7) (l.map encB) = some (l.map encB) := rds_map fun _ _ => rd_encB
@[simp] theorem flats_beads {l : List Bead} : flats (l.map encB) = true := flats_map (fun _ => flat_encB) l
theorem blsOf_const {α : Type} (b : Bool) : ∀ l : List α, blsOf (l.map fun _ => Val.bl b) = some (l.map fun _ => b)
  | [] => rfl
  | x :: l => by
    show (blsOf (l.map fun _ => Val.bl b)).map (b :: ·) = _
    rw [blsOf_const b l]
    rfl
theorem any_false {α : Type} (l : List α) : (l.map fun _ => false).any id = false := by induction l <;> simp_all
theorem all_true {α : Type} (l : List α) : (l.map fun _ => true).all id = true := by induction l <;> simp_all
theorem is_mild_eq {x : Rat} (h : Mild x) : pure' F_is_mild [encQ x] = .ok (.bl true) [] := by
  have h1 : (if x.num < 0 then -x.num else x.num) ≤ 1000000 := by rw [abs_if]; have := h.n; omega
  have h2 : (x.den : Int) ≤ 60 := by have := h.d; omega
  exact pure_rt (st := []) (v := .bl true) (by simp [S_is_mild, is_share_eq, h1, h2]) (by simp)
theorem is_bead_eq {b : Bead} (h : BeadOk b) : pure' F_is_bead [encB b] = .ok (.bl true) [] := by
  have h1 : 1 ≤ b.w := h.w.pos
  have h2 := h.w.le
  exact pure_rt (st := []) (v := .bl true) (by simp [S_is_bead, number_int, is_mild_eq h.p, is_mild_eq h.v, h1, h2]) (by simp)
theorem atI_nat {α : Type} {xs : List α} {i : Nat} (h : i < xs.length) : atI xs (i : Int) = some xs[i] := at_lt (by simp [h])
theorem getD_get {l : List Bead} {i : Nat} (h : i < l.length) : nb l i = l[i] := by simp [nb, List.getD, h]
theorem atB {l : List Bead} {i : Nat} (h : i < l.length) : atI (l.map encB) (i : Int) = some (encB (nb l i)) := by
  rw [atI_nat (by simpa using h), getD_get h]
  simp
theorem sgn_lt {x y : Rat} (h : x < y) : sgn x y = -1 := by
  rcases sgn_cases x y with ⟨a, b⟩ | ⟨a, b⟩ | ⟨a, b⟩
  · exact absurd h (Rat.not_lt.mpr (Rat.le_of_lt b))
  · rw [b] at h; exact absurd h Rat.lt_irrefl
  · exact a
theorem RowOk.at {l : List Bead} (h : RowOk l) {i : Nat} (hi : i < l.length) : BeadOk (nb l i) := by
  rw [getD_get hi]
  exact h.ok _ (List.getElem_mem _)
theorem check_row_eq {l : List Bead} (h : RowOk l) : pure' F_check_row [.lst (l.map encB)] = .ok .non [] := by
  have l0 : 1 ≤ l.length := List.length_pos_iff.mpr h.ne
  have l1 := h.len
  have c1 : eComp (iSeq (eVar 0)) (.nm 2) [2] bYes (eCallP F_is_bead [] (aCons (eVar 2) aNil)) [some (.lst (l.map encB)), none, none] [] = .ok (.lst ((l.filter fun _ => true).map fun _ => Val.bl true)) [] :=
    eComp_map (g := encB) (l := l) (still := fun st' => seqOf st' (.lst (l.map encB)) = some (l.map encB)) (by simp) rfl (by omega) fun b hb => ⟨_, by simp; rfl, by simp, fun _ => by simp [is_bead_eq (h.ok b hb)]⟩
  have c2 : eComp (iRange2 (eC (.int 1)) (eB kLen (aCons (eVar 0) aNil))) (.nm 1) [1] bYes (eBin kGe (eCallP F_sign [] (aCons (eBin kIx (eBin kIx (eVar 0) (eBin kSub (eVar 1) (eC (.int 1)))) (eC (.int 1))) (aCons (eBin kIx (eBin kIx (eVar 0) (eVar 1)) (eC (.int 1))) aNil))) (eC (.int 0))) [some (.lst (l.map encB)), none, none] [] = .ok (.lst (((List.range (l.length - 1)).filter fun _ => true).map fun _ => Val.bl false)) [] :=
    eComp_map (g := fun k : Nat => Val.int (1 + (k : Int))) (l := List.range (l.length - 1)) (still := fun _ => True) (by
      have : small62 (l.length : Int) = true := small62_nat (by omega)
      have e : ((l.length : Int) - 1).toNat = l.length - 1 := by omega
      simp [this, e, rangeV]) trivial (by simp; omega) fun k hk => by
        have hk : k < l.length - 1 := List.mem_range.mp hk
        have e0 : (1 + (k : Int)) - 1 = (k : Int) := by omega
        have e1 : (1 + (k : Int)) = ((k + 1 : Nat) : Int) := by omega
        have a0 := atB (l := l) (i := k) (by omega)
        have a1 := atB (l := l) (i := k + 1) (by omega)
        rw [← e1] at a1
        have s := sign_eq ((h.at (i := k) (by omega)).p.sq.sz (h.at (i := k + 1) (by omega)).p.sq (by decide))
        rw [sgn_lt (h.asc k (by omega))] at s
        exact ⟨_, by simp; rfl, by simp, fun _ => by simp [e0, a0, a1, s]⟩
  have h2 : (l.length : Int) ≤ 10 := by omega
  have h3 : (1 : Int) ≤ (l.length : Int) := by omega
  rw [List.filter_eq_self.mpr (by simp)] at c1 c2
  refine pure_nx (st := []) (σ := [some (.lst (l.map encB)), none, none]) ?_
  generalize hc1 : eComp (iSeq (eVar 0)) (.nm 2) [2] bYes (eCallP F_is_bead [] (aCons (eVar 2) aNil)) = C1 at c1
  generalize hc2 : eComp (iRange2 (eC (.int 1)) (eB kLen (aCons (eVar 0) aNil))) (.nm 1) [1] bYes (eBin kGe (eCallP F_sign [] (aCons (eBin kIx (eBin kIx (eVar 0) (eBin kSub (eVar 1) (eC (.int 1)))) (eC (.int 1))) (aCons (eBin kIx (eBin kIx (eVar 0) (eVar 1)) (eC (.int 1))) aNil))) (eC (.int 0))) = C2 at c2
  simp only [S_check_row, hc1, hc2]
  simp [c1, c2, blsOf_const, any_false, all_true, h2, h3]
end
end Bd

namespace Bd
noncomputable section
open PySem L2
/-! ## plain values: what the checks say of them -/
mutual
def pv : Val → Bool
  | .non => true
  | .bl _ => true
  | .int _ => true
  | .str _ => true
  | .dct => true
  | .tup vs => pvs vs
  | .lst vs => pvs vs
  | _ => false
def pvs : List Val → Bool
  | [] => true
  | v :: vs => pv v && pvs vs
end
@[simp] theorem pv_non : pv .non = true := by simp only [pv]
@[simp] theorem pv_bl {b : Bool} : pv (.bl b) = true := by simp only [pv]
@[simp] theorem pv_int {b : Int} : pv (.int b) = true := by simp only [pv]
@[simp] theorem pv_str {b : Str} : pv (.str b) = true := by simp only [pv]
@[simp] theorem pv_dct : pv .dct = true := by simp only [pv]
@[simp] theorem pv_tup {vs : List Val} : pv (.tup vs) = pvs vs := by simp only [pv]
@[simp] theorem pv_lst {vs : List Val} : pv (.lst vs) = pvs vs := by simp only [pv]
@[simp] theorem pvs_nil : pvs [] = true := by simp only [pvs]
@[simp] theorem pvs_cons {v : Val} {vs : List Val} : pvs (v :: vs) = (pv v && pvs vs) := by simp only [pvs]
theorem pvs_all : ∀ (vs : List Val), pvs vs = vs.all pv
  | [] => by simp
  | v :: vs => by simp [pvs_all vs]
@[simp] theorem pvs_app {vs us : List Val} : pvs (vs ++ us) = (pvs vs && pvs us) := by rw [pvs_all, pvs_all, pvs_all, List.all_append]
theorem pvs_map {α : Type} {f : α → Val} (h : ∀ a, pv (f a) = true) : ∀ l : List α, pvs (l.map f) = true
  | [] => by simp
  | a :: l => by simp [h a, pvs_map h l]
mutual
theorem pv_flat : ∀ (v : Val), pv v = true → flat v = true
  | .non, _ => by simp
  | .bl _, _ => by simp
  | .int _, _ => by simp
  | .str _, _ => by simp
  | .dct, _ => by simp
  | .tup vs, h => by rw [f_tup]; exact pvs_flat vs (by simpa using h)
  | .lst vs, h => by rw [f_lst]; exact pvs_flat vs (by simpa using h)
  | .scr vs, h => by simp only [pv] at h; cases h
  | .ref i, h => by simp only [pv] at h; cases h
  | .gl x, h => by simp only [pv] at h; cases h
  | .ty t, h => by simp only [pv] at h; cases h
  | .ex c, h => by simp only [pv] at h; cases h
  | .ins c fs, h => by simp only [pv] at h; cases h
theorem pvs_flat : ∀ (vs : List Val), pvs vs = true → flats vs = true
  | [], _ => by simp
  | v :: vs, h => by
    rw [pvs_cons, Bool.and_eq_true] at h
    rw [fs_cons, pv_flat v h.1, pvs_flat vs h.2]; rfl
end
mutual
theorem pv_exf : ∀ (v : Val), pv v = true → exf v = true
  | .non, _ => by simp
  | .bl _, _ => by simp
  | .int _, _ => by simp
  | .str _, _ => by simp
  | .dct, _ => by simp
  | .tup vs, h => by rw [xf_tup]; exact pvs_exf vs (by simpa using h)
  | .lst vs, h => by rw [xf_lst]; exact pvs_exf vs (by simpa using h)
  | .scr vs, h => by simp only [pv] at h; cases h
  | .ref i, h => by simp only [pv] at h; cases h
  | .gl x, h => by simp only [pv] at h; cases h
  | .ty t, h => by simp only [pv] at h; cases h
  | .ex c, h => by simp only [pv] at h; cases h
  | .ins c fs, h => by simp only [pv] at h; cases h
theorem pvs_exf : ∀ (vs : List Val), pvs vs = true → exfs vs = true
  | [], _ => by simp
  | v :: vs, h => by
    rw [pvs_cons, Bool.and_eq_true] at h
    rw [xfs_cons, pv_exf v h.1, pvs_exf vs h.2]; rfl
end
theorem pv_cases {P : Val → Prop} {v : Val} (h : pv v = true) (h1 : P .non) (h2 : ∀ b, P (.bl b)) (h3 : ∀ i, P (.int i)) (h4 : ∀ x, P (.str x)) (h5 : P .dct) (h6 : ∀ vs, pvs vs = true → P (.tup vs)) (h7 : ∀ vs, pvs vs = true → P (.lst vs)) : P v := by
  cases v with
  | non => exact h1
  | bl b => exact h2 b
  | int i => exact h3 i
  | str x => exact h4 x
  | dct => exact h5
  | tup vs => exact h6 vs (by simpa using h)
  | lst vs => exact h7 vs (by simpa using h)
  | _ => simp only [pv] at h; cases h
@[simp] theorem isi_dct' {st : Sto} {t : BT} : isi st .dct t = some (decide (t = .dict)) := rfl
@[simp] theorem r_dct {st : Sto} {n : Nat} : rd st (n + 1) .dct = some .dct := by simp only [rd]
@[simp] theorem r_gl {st : Sto} {n : Nat} {x : Str} : rd st (n + 1) (.gl x) = some (.gl x) := by simp only [rd]
theorem enc_eq {q : Rat} {a b : Int} (h1 : q.num = a) (h2 : (q.den : Int) = b) : encQ q = .tup [.int a, .int b] := by rw [← h1, ← h2]; rfl
def numB : Val → Bool
  | .int _ => true
  | _ => false
theorem is_number_val {v : Val} (h : pv v = true) : pure' F_is_number [v] = .ok (.bl (numB v)) [] := by
  refine pv_cases (P := fun v => pure' F_is_number [v] = .ok (.bl (numB v)) []) h ?_ ?_ ?_ ?_ ?_ ?_ ?_
  · exact pure_rt (st := []) (v := .bl false) (by simp [S_is_number]) (by simp [numB])
  · intro b; exact pure_rt (st := []) (v := .bl false) (by simp [S_is_number]) (by simp [numB])
  · intro b; exact pure_rt (st := []) (v := .bl true) (by simp [S_is_number]) (by simp [numB])
  · intro b; exact pure_rt (st := []) (v := .bl false) (by simp [S_is_number]) (by simp [numB])
  · exact pure_rt (st := []) (v := .bl false) (by simp [S_is_number]) (by simp [numB])
  · intro b _; exact pure_rt (st := []) (v := .bl false) (by simp [S_is_number]) (by simp [numB])
  · intro b _; exact pure_rt (st := []) (v := .bl false) (by simp [S_is_number]) (by simp [numB])
def shareB : Val → Bool
  | .tup [.int a, .int b] => decide (0 < b) && decide (Int.gcd a b = 1)
  | _ => false
theorem is_share_val {v : Val} (h : pv v = true) : pure' F_is_share [v] = .ok (.bl (shareB v)) [] := by
  refine pv_cases (P := fun v => pure' F_is_share [v] = .ok (.bl (shareB v)) []) h ?_ ?_ ?_ ?_ ?_ ?_ ?_
  · exact pure_rt (st := []) (v := .bl false) (by simp [S_is_share]) (by simp [shareB])
  · intro b; exact pure_rt (st := []) (v := .bl false) (by simp [S_is_share]) (by simp [shareB])
  · intro b; exact pure_rt (st := []) (v := .bl false) (by simp [S_is_share]) (by simp [shareB])
  · intro b; exact pure_rt (st := []) (v := .bl false) (by simp [S_is_share]) (by simp [shareB])
  · exact pure_rt (st := []) (v := .bl false) (by simp [S_is_share]) (by simp [shareB])
  · intro vs hv
    match vs, hv with
    | [], _ => exact pure_rt (st := []) (v := .bl false) (by simp [S_is_share]) (by simp [shareB])
    | [a], _ => exact pure_rt (st := []) (v := .bl false) (by simp [S_is_share]) (by simp [shareB])
    | a :: b :: c :: r, _ =>
      have e : ¬ ((r.length : Int) + 1 + 1 + 1 = 2) := by omega
      have e' : shareB (.tup (a :: b :: c :: r)) = false := by
        unfold shareB
        split
        · rename_i h; cases h
        · rfl
      exact pure_rt (st := []) (v := .bl false) (by simp [S_is_share, e]) (by simp [e'])
    | [a, b], hv =>
      simp at hv
      have ha := is_number_val hv.1
      have hb := is_number_val hv.2
      have fa := pv_flat a hv.1
      have fb := pv_flat b hv.2
      cases a with
      | int i =>
        cases b with
        | int j =>
          have c := common_eq i j
          refine pure_rt (st := []) (v := .bl (shareB (.tup [.int i, .int j]))) ?_ (by simp)
          by_cases h0 : 0 < j
          · simp [S_is_share, ha, hb, numB, c, h0, shareB]
            by_cases h1 : Int.gcd i j = 1 <;> simp [h1]
            omega
          · simp [S_is_share, ha, hb, numB, h0, shareB]
        | _ => exact pure_rt (st := []) (v := .bl false) (by simp [S_is_share, ha, hb, numB, fb] <;> simp_all) (by simp [shareB])
      | _ => exact pure_rt (st := []) (v := .bl false) (by simp [S_is_share, ha, numB, fa] <;> simp_all) (by simp [shareB])
  · intro vs hv; exact pure_rt (st := []) (v := .bl false) (by simp [S_is_share]) (by simp [shareB])
theorem check_share_bad {v : Val} (h : pv v = true) (hb : shareB v = false) : pure' F_check_share [v] = .er "BadShare" [] := by
  have f := pv_flat v h
  exact pure_er (st := []) (σ := [some v]) (by simp [S_check_share, is_share_val h, hb, f])
theorem check_share_good {v : Val} (h : pv v = true) (hb : shareB v = true) : pure' F_check_share [v] = .ok .non [] := by
  have f := pv_flat v h
  exact pure_nx (st := []) (σ := [some v]) (by simp [S_check_share, is_share_val h, hb, f])
/-- a share is a number -/
theorem share_enc {v : Val} (h : shareB v = true) : ∃ q : Rat, v = encQ q := by
  unfold shareB at h
  split at h
  · rename_i a b
    simp at h
    refine ⟨⟨a, b.toNat, by omega, ?_⟩, ?_⟩
    · have : (b.toNat : Int) = b := by omega
      have e : Nat.gcd a.natAbs b.toNat = Int.gcd a b := by
        show _ = Nat.gcd a.natAbs b.natAbs
        congr 1
        omega
      show Nat.gcd a.natAbs b.toNat = 1
      rw [e]; exact h.2
    · show _ = Val.tup [.int a, .int (b.toNat : Int)]
      rw [show ((b.toNat : Nat) : Int) = b by omega]
  · cases h
@[simp] theorem pv_encQ {q : Rat} : pv (encQ q) = true := by simp only [encQ, pv_tup, pvs_cons, pv_int, pvs_nil, Bool.and_self]
@[simp] theorem share_encQ {q : Rat} : shareB (encQ q) = true := by
  have h := q.den_pos
  have g : Int.gcd q.num (q.den : Int) = 1 := q.reduced
  show (decide (0 < (q.den : Int)) && decide (Int.gcd q.num (q.den : Int) = 1)) = true
  rw [decide_eq_true g, decide_eq_true (by omega)]
  rfl
/-- a def's truth -/
theorem pure_bl {n : Nat} {f : SI} {ds : List Val} {b : Bool} (h : ∃ st, f (ds.map some ++ List.replicate (n - ds.length) none) [] = .rt (.bl b) st) : pure' (toF n f) ds = .ok (.bl b) [] := by
  obtain ⟨st, h⟩ := h
  exact pure_rt h (by simp)
theorem pure_err {n : Nat} {f : SI} {ds : List Val} {c : Str} (h : ∃ σ st, f (ds.map some ++ List.replicate (n - ds.length) none) [] = .er c σ st) : pure' (toF n f) ds = .er c [] := by
  obtain ⟨σ, st, h⟩ := h
  exact pure_er h
theorem pure_none {n : Nat} {f : SI} {ds : List Val} (h : ∃ σ st, f (ds.map some ++ List.replicate (n - ds.length) none) [] = .nx σ st) : pure' (toF n f) ds = .ok .non [] := by
  obtain ⟨σ, st, h⟩ := h
  exact pure_nx h
/-! ### _law_alone -/
theorem alone_comp (d : Int) (v : Val) (x2 x3 : Option Val) (st : Sto) : eComp (iRange1 (eC (.int 13))) (.nm 3) [3] bYes (eBin kEq (eVar 3) (eVar 1)) [some v, some (.int d), x2, x3] st = .ok (.lst ((((List.range 13).map fun k : Nat => decide ((k : Int) = d))).map .bl)) st := by
  rw [eComp_map (g := fun k : Nat => Val.int (0 + (k : Int))) (h := fun k : Nat => .bl (decide ((k : Int) = d))) (p := fun _ => true) (l := List.range 13) (still := fun _ => True) (by simp [small62_lit, rangeV]) trivial (by simp) fun k _ => ⟨_, by simp; rfl, by simp, fun _ => by
    have e : ((k : Int) == d) = decide ((k : Int) = d) := by cases h : decide ((k : Int) = d) <;> simp_all
    simp [e]⟩]
  rw [List.filter_eq_self.mpr (by simp)]
  simp
@[simp] theorem toDs_bls {st : Sto} {n : Nat} {l : List Bool} : toDs st (n + 2) (l.map .bl) = some (l.map .bool) := toDs_map fun _ _ => by simp
theorem eqv_bool (x y : Bool) : PyData.eqv (.bool x) (.bool y) = decide (x = y) := by
  rw [q_bool]
  cases x <;> cases y <;> rfl
@[simp] theorem eqv_bools {l l' : List Bool} : PyData.eqvAll (l.map .bool) (l'.map .bool) = decide (l = l') := eqvAll_map eqv_bool l l'
/-- the classes, as they are counted -/
def errIx (c : Str) : Nat → Bool
  | 0 => "BadShare" == c | 1 => "BadRow" == c | 2 => "BadBead" == c | 3 => "BadWeight" == c | 4 => "BadMoment" == c | 5 => "BadKind" == c | 6 => "BadEvents" == c | 7 => "BadText" == c | 8 => "Unlike" == c | 9 => "Together" == c | 10 => "Crowded" == c | 11 => "TooMany" == c | 12 => "TooFar" == c | _ => false
def errIxs (c : Str) : List Bool := ["BadShare" == c, "BadRow" == c, "BadBead" == c, "BadWeight" == c, "BadMoment" == c, "BadKind" == c, "BadEvents" == c, "BadText" == c, "Unlike" == c, "Together" == c, "Crowded" == c, "TooMany" == c, "TooFar" == c]
theorem alone_BadShare (d : Int) : pure' F_law_alone [.ex "BadShare", .int d] = .ok (.bl (decide (errIxs "BadShare" = (List.range 13).map fun k : Nat => decide ((k : Int) = d)))) [] := by
  have c := alone_comp d (.ex "BadShare")
  refine pure_bl ?_
  generalize hc : eComp (iRange1 (eC (.int 13))) (.nm 3) [3] bYes (eBin kEq (eVar 3) (eVar 1)) = C at c
  have q := eqv_bools (l := errIxs "BadShare") (l' := (List.range 13).map fun k : Nat => decide ((k : Int) = d))
  generalize hD : ((List.range 13).map fun k : Nat => decide ((k : Int) = d)) = D at *
  have e : errIxs "BadShare" = [true, false, false, false, false, false, false, false, false, false, false, false, false] := by decide
  rw [e] at q ⊢
  simp only [List.map_cons, List.map_nil] at q
  simp only [S_law_alone, hc]
  simp [c, mApp, q]
  split <;> simp_all
theorem alone_BadRow (d : Int) : pure' F_law_alone [.ex "BadRow", .int d] = .ok (.bl (decide (errIxs "BadRow" = (List.range 13).map fun k : Nat => decide ((k : Int) = d)))) [] := by
  have c := alone_comp d (.ex "BadRow")
  refine pure_bl ?_
  generalize hc : eComp (iRange1 (eC (.int 13))) (.nm 3) [3] bYes (eBin kEq (eVar 3) (eVar 1)) = C at c
  have q := eqv_bools (l := errIxs "BadRow") (l' := (List.range 13).map fun k : Nat => decide ((k : Int) = d))
  generalize hD : ((List.range 13).map fun k : Nat => decide ((k : Int) = d)) = D at *
  have e : errIxs "BadRow" = [false, true, false, false, false, false, false, false, false, false, false, false, false] := by decide
  rw [e] at q ⊢
  simp only [List.map_cons, List.map_nil] at q
  simp only [S_law_alone, hc]
  simp [c, mApp, q]
  split <;> simp_all
theorem alone_BadBead (d : Int) : pure' F_law_alone [.ex "BadBead", .int d] = .ok (.bl (decide (errIxs "BadBead" = (List.range 13).map fun k : Nat => decide ((k : Int) = d)))) [] := by
  have c := alone_comp d (.ex "BadBead")
  refine pure_bl ?_
  generalize hc : eComp (iRange1 (eC (.int 13))) (.nm 3) [3] bYes (eBin kEq (eVar 3) (eVar 1)) = C at c
  have q := eqv_bools (l := errIxs "BadBead") (l' := (List.range 13).map fun k : Nat => decide ((k : Int) = d))
  generalize hD : ((List.range 13).map fun k : Nat => decide ((k : Int) = d)) = D at *
  have e : errIxs "BadBead" = [false, false, true, false, false, false, false, false, false, false, false, false, false] := by decide
  rw [e] at q ⊢
  simp only [List.map_cons, List.map_nil] at q
  simp only [S_law_alone, hc]
  simp [c, mApp, q]
  split <;> simp_all
theorem alone_BadWeight (d : Int) : pure' F_law_alone [.ex "BadWeight", .int d] = .ok (.bl (decide (errIxs "BadWeight" = (List.range 13).map fun k : Nat => decide ((k : Int) = d)))) [] := by
  have c := alone_comp d (.ex "BadWeight")
  refine pure_bl ?_
  generalize hc : eComp (iRange1 (eC (.int 13))) (.nm 3) [3] bYes (eBin kEq (eVar 3) (eVar 1)) = C at c
  have q := eqv_bools (l := errIxs "BadWeight") (l' := (List.range 13).map fun k : Nat => decide ((k : Int) = d))
  generalize hD : ((List.range 13).map fun k : Nat => decide ((k : Int) = d)) = D at *
  have e : errIxs "BadWeight" = [false, false, false, true, false, false, false, false, false, false, false, false, false] := by decide
  rw [e] at q ⊢
  simp only [List.map_cons, List.map_nil] at q
  simp only [S_law_alone, hc]
  simp [c, mApp, q]
  split <;> simp_all
theorem alone_BadMoment (d : Int) : pure' F_law_alone [.ex "BadMoment", .int d] = .ok (.bl (decide (errIxs "BadMoment" = (List.range 13).map fun k : Nat => decide ((k : Int) = d)))) [] := by
  have c := alone_comp d (.ex "BadMoment")
  refine pure_bl ?_
  generalize hc : eComp (iRange1 (eC (.int 13))) (.nm 3) [3] bYes (eBin kEq (eVar 3) (eVar 1)) = C at c
  have q := eqv_bools (l := errIxs "BadMoment") (l' := (List.range 13).map fun k : Nat => decide ((k : Int) = d))
  generalize hD : ((List.range 13).map fun k : Nat => decide ((k : Int) = d)) = D at *
  have e : errIxs "BadMoment" = [false, false, false, false, true, false, false, false, false, false, false, false, false] := by decide
  rw [e] at q ⊢
  simp only [List.map_cons, List.map_nil] at q
  simp only [S_law_alone, hc]
  simp [c, mApp, q]
  split <;> simp_all
theorem alone_BadKind (d : Int) : pure' F_law_alone [.ex "BadKind", .int d] = .ok (.bl (decide (errIxs "BadKind" = (List.range 13).map fun k : Nat => decide ((k : Int) = d)))) [] := by
  have c := alone_comp d (.ex "BadKind")
  refine pure_bl ?_
  generalize hc : eComp (iRange1 (eC (.int 13))) (.nm 3) [3] bYes (eBin kEq (eVar 3) (eVar 1)) = C at c
  have q := eqv_bools (l := errIxs "BadKind") (l' := (List.range 13).map fun k : Nat => decide ((k : Int) = d))
  generalize hD : ((List.range 13).map fun k : Nat => decide ((k : Int) = d)) = D at *
  have e : errIxs "BadKind" = [false, false, false, false, false, true, false, false, false, false, false, false, false] := by decide
  rw [e] at q ⊢
  simp only [List.map_cons, List.map_nil] at q
  simp only [S_law_alone, hc]
  simp [c, mApp, q]
  split <;> simp_all
theorem alone_BadEvents (d : Int) : pure' F_law_alone [.ex "BadEvents", .int d] = .ok (.bl (decide (errIxs "BadEvents" = (List.range 13).map fun k : Nat => decide ((k : Int) = d)))) [] := by
  have c := alone_comp d (.ex "BadEvents")
  refine pure_bl ?_
  generalize hc : eComp (iRange1 (eC (.int 13))) (.nm 3) [3] bYes (eBin kEq (eVar 3) (eVar 1)) = C at c
  have q := eqv_bools (l := errIxs "BadEvents") (l' := (List.range 13).map fun k : Nat => decide ((k : Int) = d))
  generalize hD : ((List.range 13).map fun k : Nat => decide ((k : Int) = d)) = D at *
  have e : errIxs "BadEvents" = [false, false, false, false, false, false, true, false, false, false, false, false, false] := by decide
  rw [e] at q ⊢
  simp only [List.map_cons, List.map_nil] at q
  simp only [S_law_alone, hc]
  simp [c, mApp, q]
  split <;> simp_all
theorem alone_BadText (d : Int) : pure' F_law_alone [.ex "BadText", .int d] = .ok (.bl (decide (errIxs "BadText" = (List.range 13).map fun k : Nat => decide ((k : Int) = d)))) [] := by
  have c := alone_comp d (.ex "BadText")
  refine pure_bl ?_
  generalize hc : eComp (iRange1 (eC (.int 13))) (.nm 3) [3] bYes (eBin kEq (eVar 3) (eVar 1)) = C at c
  have q := eqv_bools (l := errIxs "BadText") (l' := (List.range 13).map fun k : Nat => decide ((k : Int) = d))
  generalize hD : ((List.range 13).map fun k : Nat => decide ((k : Int) = d)) = D at *
  have e : errIxs "BadText" = [false, false, false, false, false, false, false, true, false, false, false, false, false] := by decide
  rw [e] at q ⊢
  simp only [List.map_cons, List.map_nil] at q
  simp only [S_law_alone, hc]
  simp [c, mApp, q]
  split <;> simp_all
theorem alone_Unlike (d : Int) : pure' F_law_alone [.ex "Unlike", .int d] = .ok (.bl (decide (errIxs "Unlike" = (List.range 13).map fun k : Nat => decide ((k : Int) = d)))) [] := by
  have c := alone_comp d (.ex "Unlike")
  refine pure_bl ?_
  generalize hc : eComp (iRange1 (eC (.int 13))) (.nm 3) [3] bYes (eBin kEq (eVar 3) (eVar 1)) = C at c
  have q := eqv_bools (l := errIxs "Unlike") (l' := (List.range 13).map fun k : Nat => decide ((k : Int) = d))
  generalize hD : ((List.range 13).map fun k : Nat => decide ((k : Int) = d)) = D at *
  have e : errIxs "Unlike" = [false, false, false, false, false, false, false, false, true, false, false, false, false] := by decide
  rw [e] at q ⊢
  simp only [List.map_cons, List.map_nil] at q
  simp only [S_law_alone, hc]
  simp [c, mApp, q]
  split <;> simp_all
theorem alone_Together (d : Int) : pure' F_law_alone [.ex "Together", .int d] = .ok (.bl (decide (errIxs "Together" = (List.range 13).map fun k : Nat => decide ((k : Int) = d)))) [] := by
  have c := alone_comp d (.ex "Together")
  refine pure_bl ?_
  generalize hc : eComp (iRange1 (eC (.int 13))) (.nm 3) [3] bYes (eBin kEq (eVar 3) (eVar 1)) = C at c
  have q := eqv_bools (l := errIxs "Together") (l' := (List.range 13).map fun k : Nat => decide ((k : Int) = d))
  generalize hD : ((List.range 13).map fun k : Nat => decide ((k : Int) = d)) = D at *
  have e : errIxs "Together" = [false, false, false, false, false, false, false, false, false, true, false, false, false] := by decide
  rw [e] at q ⊢
  simp only [List.map_cons, List.map_nil] at q
  simp only [S_law_alone, hc]
  simp [c, mApp, q]
  split <;> simp_all
theorem alone_Crowded (d : Int) : pure' F_law_alone [.ex "Crowded", .int d] = .ok (.bl (decide (errIxs "Crowded" = (List.range 13).map fun k : Nat => decide ((k : Int) = d)))) [] := by
  have c := alone_comp d (.ex "Crowded")
  refine pure_bl ?_
  generalize hc : eComp (iRange1 (eC (.int 13))) (.nm 3) [3] bYes (eBin kEq (eVar 3) (eVar 1)) = C at c
  have q := eqv_bools (l := errIxs "Crowded") (l' := (List.range 13).map fun k : Nat => decide ((k : Int) = d))
  generalize hD : ((List.range 13).map fun k : Nat => decide ((k : Int) = d)) = D at *
  have e : errIxs "Crowded" = [false, false, false, false, false, false, false, false, false, false, true, false, false] := by decide
  rw [e] at q ⊢
  simp only [List.map_cons, List.map_nil] at q
  simp only [S_law_alone, hc]
  simp [c, mApp, q]
  split <;> simp_all
theorem alone_TooMany (d : Int) : pure' F_law_alone [.ex "TooMany", .int d] = .ok (.bl (decide (errIxs "TooMany" = (List.range 13).map fun k : Nat => decide ((k : Int) = d)))) [] := by
  have c := alone_comp d (.ex "TooMany")
  refine pure_bl ?_
  generalize hc : eComp (iRange1 (eC (.int 13))) (.nm 3) [3] bYes (eBin kEq (eVar 3) (eVar 1)) = C at c
  have q := eqv_bools (l := errIxs "TooMany") (l' := (List.range 13).map fun k : Nat => decide ((k : Int) = d))
  generalize hD : ((List.range 13).map fun k : Nat => decide ((k : Int) = d)) = D at *
  have e : errIxs "TooMany" = [false, false, false, false, false, false, false, false, false, false, false, true, false] := by decide
  rw [e] at q ⊢
  simp only [List.map_cons, List.map_nil] at q
  simp only [S_law_alone, hc]
  simp [c, mApp, q]
  split <;> simp_all
theorem alone_TooFar (d : Int) : pure' F_law_alone [.ex "TooFar", .int d] = .ok (.bl (decide (errIxs "TooFar" = (List.range 13).map fun k : Nat => decide ((k : Int) = d)))) [] := by
  have c := alone_comp d (.ex "TooFar")
  refine pure_bl ?_
  generalize hc : eComp (iRange1 (eC (.int 13))) (.nm 3) [3] bYes (eBin kEq (eVar 3) (eVar 1)) = C at c
  have q := eqv_bools (l := errIxs "TooFar") (l' := (List.range 13).map fun k : Nat => decide ((k : Int) = d))
  generalize hD : ((List.range 13).map fun k : Nat => decide ((k : Int) = d)) = D at *
  have e : errIxs "TooFar" = [false, false, false, false, false, false, false, false, false, false, false, false, true] := by decide
  rw [e] at q ⊢
  simp only [List.map_cons, List.map_nil] at q
  simp only [S_law_alone, hc]
  simp [c, mApp, q]
  split <;> simp_all
end
end Bd

set_option exponentiation.threshold 300
namespace Bd
noncomputable section
open PySem L2
/-! ## shares of a row, beads, rows -/
def mildB : Val → Bool
  | .tup [.int a, .int b] => shareB (.tup [.int a, .int b]) && decide (a.natAbs ≤ 1000000) && decide (b ≤ 60)
  | _ => false
theorem mild_share {v : Val} (h : mildB v = true) : shareB v = true := by
  unfold mildB at h
  split at h
  · simp only [Bool.and_eq_true] at h; exact h.1.1
  · cases h
theorem mild_no {v : Val} (h : shareB v = false) : mildB v = false := by
  cases e : mildB v with
  | false => rfl
  | true => rw [mild_share e] at h; cases h
theorem is_mild_val {v : Val} (h : pv v = true) : pure' F_is_mild [v] = .ok (.bl (mildB v)) [] := by
  have e := is_share_val h
  have f := pv_flat v h
  cases hs : shareB v with
  | false =>
    rw [hs] at e
    rw [mild_no hs]
    exact pure_bl (by simp [S_is_mild, e, f])
  | true =>
    obtain ⟨q, rfl⟩ := share_enc hs
    have n : mildB (encQ q) = (decide (q.num.natAbs ≤ 1000000) && decide ((q.den : Int) ≤ 60)) := by
      show (shareB (encQ q) && decide (q.num.natAbs ≤ 1000000) && decide ((q.den : Int) ≤ 60)) = _
      simp
    have ab : (if q.num < 0 then -q.num else q.num) = (q.num.natAbs : Int) := abs_if _
    have b1 : ((q.num.natAbs : Int) ≤ 1000000) ↔ q.num.natAbs ≤ 1000000 := by omega
    rw [n]
    refine pure_bl ?_
    by_cases h1 : q.num.natAbs ≤ 1000000
    · have h1' : (q.num.natAbs : Int) ≤ 1000000 := by omega
      simp [S_is_mild, is_share_eq, ab, h1', h1]
    · have h1' : ¬ (q.num.natAbs : Int) ≤ 1000000 := by omega
      simp [S_is_mild, is_share_eq, ab, h1', h1]
theorem mild_enc {v : Val} (h : mildB v = true) : ∃ q : Rat, v = encQ q ∧ Mild q := by
  obtain ⟨q, rfl⟩ := share_enc (mild_share h)
  refine ⟨q, rfl, ?_⟩
  have h : (shareB (encQ q) && decide (q.num.natAbs ≤ 1000000) && decide ((q.den : Int) ≤ 60)) = true := h
  simp at h
  exact ⟨h.1, by omega⟩
theorem Mild.b {q : Rat} (h : Mild q) : mildB (encQ q) = true := by
  have a := h.n
  have b := h.d
  show (shareB (encQ q) && decide (q.num.natAbs ≤ 1000000) && decide ((q.den : Int) ≤ 60)) = true
  simp [a]
  omega
def beadB : Val → Bool
  | .tup [.int w, p, s] => decide (1 ≤ w) && decide (w ≤ 60) && mildB p && mildB s
  | _ => false
theorem is_bead_val {v : Val} (h : pv v = true) : pure' F_is_bead [v] = .ok (.bl (beadB v)) [] := by
  refine pv_cases (P := fun v => pure' F_is_bead [v] = .ok (.bl (beadB v)) []) h ?_ ?_ ?_ ?_ ?_ ?_ ?_
  · exact pure_bl (by simp [S_is_bead, beadB])
  · intro b; exact pure_bl (by simp [S_is_bead, beadB])
  · intro b; exact pure_bl (by simp [S_is_bead, beadB])
  · intro b; exact pure_bl (by simp [S_is_bead, beadB])
  · exact pure_bl (by simp [S_is_bead, beadB])
  · intro vs hv
    match vs, hv with
    | [], _ => exact pure_bl (by simp [S_is_bead, beadB])
    | [a], _ => exact pure_bl (by simp [S_is_bead, beadB])
    | [a, b], _ => exact pure_bl (by simp [S_is_bead, beadB])
    | a :: b :: c :: d :: r, _ =>
      have e : ¬ ((r.length : Int) + 1 + 1 + 1 + 1 = 3) := by omega
      have e' : beadB (.tup (a :: b :: c :: d :: r)) = false := by
        unfold beadB
        split
        · rename_i h; cases h
        · rfl
      rw [e']
      exact pure_bl (by simp [S_is_bead, e])
    | [a, b, c], hv =>
      simp at hv
      have ha := is_number_val hv.1
      have fa := pv_flat a hv.1
      have fb := pv_flat b hv.2.1
      have fc := pv_flat c hv.2.2
      have hb := is_mild_val hv.2.1
      have hc := is_mild_val hv.2.2
      cases a with
      | int w =>
        refine pure_bl ?_
        simp only [numB] at ha
        by_cases h1 : 1 ≤ w
        · by_cases h2 : w ≤ 60
          · cases e1 : mildB b <;> cases e2 : mildB c <;> rw [e1] at hb <;> rw [e2] at hc <;> simp [S_is_bead, beadB, ha, hb, hc, h1, h2, e1, e2, fb, fc]
          · simp [S_is_bead, beadB, ha, h1, h2]
        · simp [S_is_bead, beadB, ha, h1]
      | _ => simp only [numB] at ha; exact pure_bl (by simp [S_is_bead, beadB, ha, fa] <;> simp_all)
  · intro vs hv; exact pure_bl (by simp [S_is_bead, beadB])
theorem bead_enc {v : Val} (h : beadB v = true) : ∃ b : Bead, v = encB b ∧ BeadOk b := by
  unfold beadB at h
  split at h
  · rename_i w p s
    simp only [Bool.and_eq_true, decide_eq_true_eq] at h
    obtain ⟨⟨⟨h1, h2⟩, h3⟩, h4⟩ := h
    obtain ⟨x, rfl, mx⟩ := mild_enc h3
    obtain ⟨y, rfl, my⟩ := mild_enc h4
    exact ⟨⟨w, x, y⟩, rfl, ⟨⟨(show 0 < w by omega), h2⟩, mx, my⟩⟩
  · cases h
theorem BeadOk.b {b : Bead} (h : BeadOk b) : beadB (encB b) = true := by
  have h1 : 1 ≤ b.w := h.w.pos
  have h2 := h.w.le
  show (decide (1 ≤ b.w) && decide (b.w ≤ 60) && mildB (encQ b.p) && mildB (encQ b.v)) = true
  rw [h.p.b, h.v.b]
  simp [h1, h2]
/-- two places that rise -/
def ltP : Val → Val → Bool
  | .tup [_, .tup [.int a, .int b], _], .tup [_, .tup [.int c, .int d], _] => decide (a * d < c * b)
  | _, _ => false
def rise : List Val → Bool
  | x :: y :: r => ltP x y && rise (y :: r)
  | _ => true
def rowB : Val → Bool
  | .lst vs => decide (1 ≤ vs.length) && decide (vs.length ≤ 10) && vs.all beadB && rise vs
  | _ => false
theorem ltP_enc (x y : Bead) : ltP (encB x) (encB y) = decide (x.p < y.p) := by
  show decide (x.p.num * (y.p.den : Int) < y.p.num * (x.p.den : Int)) = _
  congr 1
  exact propext (Rat.lt_iff _ _).symm
theorem rise_no : ∀ {l : List Bead}, rise (l.map encB) = false → ∃ k, k + 1 < l.length ∧ ¬ (nb l k).p < (nb l (k + 1)).p
  | [], h => by simp [rise] at h
  | [x], h => by simp [rise] at h
  | x :: y :: r, h => by
    have h : (ltP (encB x) (encB y) && rise ((y :: r).map encB)) = false := h
    rw [ltP_enc] at h
    by_cases h1 : x.p < y.p
    · rw [decide_eq_true h1, Bool.true_and] at h
      obtain ⟨k, h2, h3⟩ := rise_no h
      exact ⟨k + 1, by simpa using h2, h3⟩
    · exact ⟨0, by simp, h1⟩
theorem rise_of : ∀ {l : List Bead}, (∀ i, i + 1 < l.length → (nb l i).p < (nb l (i + 1)).p) → rise (l.map encB) = true
  | [], h => by simp [rise]
  | [x], h => by simp [rise]
  | x :: y :: r, h => by
    show (ltP (encB x) (encB y) && rise ((y :: r).map encB)) = true
    rw [ltP_enc, rise_of (l := y :: r) fun i hi => h (i + 1) (by simpa using hi)]
    have : x.p < y.p := h 0 (by simp)
    simp [this]
theorem RowOk.b {l : List Bead} (h : RowOk l) : rowB (.lst (l.map encB)) = true := by
  have l0 : 1 ≤ l.length := List.length_pos_iff.mpr h.ne
  have l1 := h.len
  have a : (l.map encB).all beadB = true := List.all_eq_true.mpr fun v hv => by
    obtain ⟨b, hb, rfl⟩ := List.mem_map.mp hv
    exact (h.ok b hb).b
  show (decide (1 ≤ (l.map encB).length) && decide ((l.map encB).length ≤ 10) && (l.map encB).all beadB && rise (l.map encB)) = true
  rw [a, rise_of h.asc]
  simp
  omega
theorem all_beads : ∀ {vs : List Val}, vs.all beadB = true → ∃ l : List Bead, vs = l.map encB ∧ ∀ b ∈ l, BeadOk b
  | [], _ => ⟨[], rfl, by simp⟩
  | v :: vs, h => by
    simp only [List.all_cons, Bool.and_eq_true] at h
    obtain ⟨b, rfl, hb⟩ := bead_enc h.1
    obtain ⟨l, rfl, hl⟩ := all_beads h.2
    exact ⟨b :: l, rfl, by simpa using ⟨hb, hl⟩⟩
theorem row_enc {v : Val} (h : rowB v = true) : ∃ l : List Bead, v = .lst (l.map encB) ∧ RowOk l := by
  unfold rowB at h
  split at h
  · rename_i vs
    simp only [Bool.and_eq_true, decide_eq_true_eq] at h
    obtain ⟨⟨⟨h1, h2⟩, h3⟩, h4⟩ := h
    obtain ⟨l, rfl, hl⟩ := all_beads h3
    refine ⟨l, rfl, ⟨fun e => by subst e; simp at h1, by simpa using h2, hl, fun i hi => ?_⟩⟩
    have key : ∀ {l : List Bead}, rise (l.map encB) = true → ∀ i, i + 1 < l.length → (nb l i).p < (nb l (i + 1)).p := by
      intro l
      induction l with
      | nil => intro _ i hi; simp at hi
      | cons x l ih =>
        intro h i hi
        cases l with
        | nil => simp at hi
        | cons y r =>
          have h : (ltP (encB x) (encB y) && rise ((y :: r).map encB)) = true := h
          rw [ltP_enc, Bool.and_eq_true, decide_eq_true_eq] at h
          cases i with
          | zero => exact h.1
          | succ i => exact ih h.2 i (by simpa using hi)
    exact key h4 i hi
  · cases h
theorem blsOf_bl {α : Type} (f : α → Bool) : ∀ l : List α, blsOf (l.map fun x => Val.bl (f x)) = some (l.map f)
  | [] => rfl
  | x :: l => by
    show (blsOf (l.map fun x => Val.bl (f x))).map (f x :: ·) = _
    rw [blsOf_bl f l]
    rfl
theorem all_map_id {α : Type} (f : α → Bool) : ∀ l : List α, (l.map f).all id = l.all f
  | [] => rfl
  | x :: l => by simp [all_map_id f l]
theorem any_map_id {α : Type} (f : α → Bool) : ∀ l : List α, (l.map f).any id = l.any f
  | [] => rfl
  | x :: l => by simp [any_map_id f l]
theorem check_row_bad {v : Val} (h : pv v = true) (hb : rowB v = false) : pure' F_check_row [v] = .er "BadRow" [] := by
  revert hb
  refine pv_cases (P := fun v => rowB v = false → pure' F_check_row [v] = .er "BadRow" []) h ?_ ?_ ?_ ?_ ?_ ?_ ?_
  · intro _; exact pure_err (by simp [S_check_row])
  · intro b _; exact pure_err (by simp [S_check_row])
  · intro b _; exact pure_err (by simp [S_check_row])
  · intro b _; exact pure_err (by simp [S_check_row])
  · intro _; exact pure_err (by simp [S_check_row])
  · intro vs hv _; exact pure_err (by simp [S_check_row])
  · intro vs hv hb
    by_cases l1 : 1 ≤ vs.length
    · by_cases l2 : vs.length ≤ 10
      · have c1 : eComp (iSeq (eVar 0)) (.nm 2) [2] bYes (eCallP F_is_bead [] (aCons (eVar 2) aNil)) [some (.lst vs), none, none] [] = .ok (.lst ((vs.filter fun _ => true).map fun v => Val.bl (beadB v))) [] :=
          eComp_map (g := fun v : Val => v) (l := vs) (still := fun st' => seqOf st' (.lst vs) = some vs) (by simp) rfl (by omega) fun v hv' => ⟨_, by simp; rfl, by simp, fun _ => by
            have pvv : pv v = true := by rw [pvs_all] at hv; exact List.all_eq_true.mp hv v hv'
            simp [is_bead_val pvv, pv_flat v pvv]⟩
        rw [List.filter_eq_self.mpr (by simp)] at c1
        have i1 : (1 : Int) ≤ (vs.length : Int) := by omega
        have i2 : (vs.length : Int) ≤ 10 := by omega
        have ne : vs ≠ [] := fun e => by rw [e] at l1; simp at l1
        have fl := pvs_flat vs hv
        cases ha : vs.all beadB with
        | false =>
          generalize hc1 : eComp (iSeq (eVar 0)) (.nm 2) [2] bYes (eCallP F_is_bead [] (aCons (eVar 2) aNil)) = C1 at c1
          refine pure_err ?_
          have q := (all_map_id beadB vs).trans ha
          simp only [S_check_row, hc1]
          simp [c1, blsOf_bl, q, i1, i2]
        | true =>
          obtain ⟨l, rfl, hl⟩ := all_beads ha
          have hr : rise (l.map encB) = false := by
            have hb : (decide (1 ≤ (l.map encB).length) && decide ((l.map encB).length ≤ 10) && (l.map encB).all beadB && rise (l.map encB)) = false := hb
            rw [decide_eq_true l1, decide_eq_true l2, ha] at hb
            simpa using hb
          obtain ⟨k, hk, hn⟩ := rise_no hr
          rw [List.length_map] at l1 l2 i1 i2
          have c2 : eComp (iRange2 (eC (.int 1)) (eB kLen (aCons (eVar 0) aNil))) (.nm 1) [1] bYes (eBin kGe (eCallP F_sign [] (aCons (eBin kIx (eBin kIx (eVar 0) (eBin kSub (eVar 1) (eC (.int 1)))) (eC (.int 1))) (aCons (eBin kIx (eBin kIx (eVar 0) (eVar 1)) (eC (.int 1))) aNil))) (eC (.int 0))) [some (.lst (l.map encB)), none, none] [] = .ok (.lst (((List.range (l.length - 1)).filter fun _ => true).map fun k => Val.bl (decide (0 ≤ sgn (nb l k).p (nb l (k + 1)).p)))) [] :=
            eComp_map (g := fun k : Nat => Val.int (1 + (k : Int))) (l := List.range (l.length - 1)) (still := fun _ => True) (by
              have : small62 (l.length : Int) = true := small62_nat (by omega)
              have e : ((l.length : Int) - 1).toNat = l.length - 1 := by omega
              simp [this, e, rangeV]) trivial (by simp; omega) fun k hk => by
                have hk : k < l.length - 1 := List.mem_range.mp hk
                have e0 : (1 + (k : Int)) - 1 = (k : Int) := by omega
                have e1 : (1 + (k : Int)) = ((k + 1 : Nat) : Int) := by omega
                have a0 := atB (l := l) (i := k) (by omega)
                have a1 := atB (l := l) (i := k + 1) (by omega)
                rw [← e1] at a1
                have m0 : Mild (nb l k).p := by rw [getD_get (by omega)]; exact (hl _ (List.getElem_mem _)).p
                have m1 : Mild (nb l (k + 1)).p := by rw [getD_get (by omega)]; exact (hl _ (List.getElem_mem _)).p
                have s := sign_eq (m0.sq.sz m1.sq (by decide))
                exact ⟨_, by simp; rfl, by simp, fun _ => by simp [e0, a0, a1, s]⟩
          rw [List.filter_eq_self.mpr (by simp)] at c2
          have q1 := (all_map_id beadB (l.map encB)).trans ha
          have q2 : ((List.range (l.length - 1)).map fun k => decide (0 ≤ sgn (nb l k).p (nb l (k + 1)).p)).any id = true := by
            rw [any_map_id]
            refine List.any_eq_true.mpr ⟨k, List.mem_range.mpr (by omega), ?_⟩
            simp only [decide_eq_true_eq]
            exact sgn_nonneg.mpr (Rat.not_lt.mp hn)
          refine pure_err ?_
          generalize hc1 : eComp (iSeq (eVar 0)) (.nm 2) [2] bYes (eCallP F_is_bead [] (aCons (eVar 2) aNil)) = C1 at c1
          generalize hc2 : eComp (iRange2 (eC (.int 1)) (eB kLen (aCons (eVar 0) aNil))) (.nm 1) [1] bYes (eBin kGe (eCallP F_sign [] (aCons (eBin kIx (eBin kIx (eVar 0) (eBin kSub (eVar 1) (eC (.int 1)))) (eC (.int 1))) (aCons (eBin kIx (eBin kIx (eVar 0) (eVar 1)) (eC (.int 1))) aNil))) (eC (.int 0))) = C2 at c2
          simp only [S_check_row, hc1, hc2]
          generalize hD : ((l.map encB).map fun v => Val.bl (beadB v)) = D at c1
          have b1 : blsOf D = some ((l.map encB).map beadB) := by rw [← hD]; exact blsOf_bl beadB _
          generalize hD2 : ((List.range (l.length - 1)).map fun k => Val.bl (decide (0 ≤ sgn (nb l k).p (nb l (k + 1)).p))) = D2 at c2
          have b2 : blsOf D2 = some ((List.range (l.length - 1)).map fun k => decide (0 ≤ sgn (nb l k).p (nb l (k + 1)).p)) := by rw [← hD2]; exact blsOf_bl _ _
          generalize ((List.range (l.length - 1)).map fun k => decide (0 ≤ sgn (nb l k).p (nb l (k + 1)).p)) = Q2 at b2 q2
          generalize (l.map encB).map beadB = Q1 at b1 q1
          simp [c1, c2, b1, q1, i1, i2, b2, q2]
      · have i2 : ¬ (vs.length : Int) ≤ 10 := by omega
        have i1 : (1 : Int) ≤ (vs.length : Int) := by omega
        exact pure_err (by simp [S_check_row, i1, i2])
    · have i1 : ¬ (1 : Int) ≤ (vs.length : Int) := by omega
      exact pure_err (by simp [S_check_row, i1])
/-! moments, counts of beads, weights -/
def momB : Val → Bool
  | .tup [.int a, .int b] => shareB (.tup [.int a, .int b]) && decide (0 ≤ a)
  | _ => false
theorem mom_share {v : Val} (h : momB v = true) : shareB v = true := by
  unfold momB at h
  split at h
  · simp only [Bool.and_eq_true] at h; exact h.1
  · cases h
theorem mom_no {v : Val} (h : shareB v = false) : momB v = false := by
  cases e : momB v with
  | false => rfl
  | true => rw [mom_share e] at h; cases h
theorem is_moment_val {v : Val} (h : pv v = true) : pure' F_is_moment [v] = .ok (.bl (momB v)) [] := by
  have e := is_share_val h
  have f := pv_flat v h
  cases hs : shareB v with
  | false =>
    rw [hs] at e
    rw [mom_no hs]
    exact pure_bl (by simp [S_is_moment, e, f])
  | true =>
    obtain ⟨q, rfl⟩ := share_enc hs
    have n : momB (encQ q) = decide (0 ≤ q.num) := by
      show (shareB (encQ q) && decide (0 ≤ q.num)) = _
      simp
    rw [n]
    exact pure_bl (by simp [S_is_moment, is_share_eq])
theorem check_moment_bad {v : Val} (h : pv v = true) (hb : momB v = false) : pure' F_check_moment [v] = .er "BadMoment" [] := by
  have f := pv_flat v h
  exact pure_err (by simp [S_check_moment, is_moment_val h, hb, f])
theorem check_moment_good {v : Val} (h : pv v = true) (hb : momB v = true) : pure' F_check_moment [v] = .ok .non [] := by
  have f := pv_flat v h
  exact pure_none (by simp [S_check_moment, is_moment_val h, hb, f])
@[simp] theorem mom_encQ {q : Rat} : momB (encQ q) = decide (0 ≤ q.num) := by
  show (shareB (encQ q) && decide (0 ≤ q.num)) = _
  simp
theorem check_moment_eq {q : Rat} (h : 0 ≤ q) : pure' F_check_moment [encQ q] = .ok .non [] := check_moment_good (by simp) (by
  have := (Rat.num_nonneg).mpr h
  simp [this])
def countB (n : Nat) : Val → Bool
  | .int i => decide (0 ≤ i) && decide (i < (n : Int))
  | _ => false
theorem check_bead_bad {vs : List Val} {v : Val} (hl : flats vs = true) (h : pv v = true) (hb : countB vs.length v = false) : pure' F_check_bead [.lst vs, v] = .er "BadBead" [] := by
  have f := pv_flat v h
  have e := is_number_val h
  refine pure_err ?_
  cases v with
  | int i =>
    simp only [numB] at e
    simp only [countB, Bool.and_eq_false_iff, decide_eq_false_iff_not] at hb
    by_cases h0 : 0 ≤ i
    · have h1 : ¬ i < (vs.length : Int) := hb.resolve_left (fun z => z h0)
      simp [S_check_bead, e, h0, h1]
    · simp [S_check_bead, e, h0]
  | _ => simp only [numB] at e; simp [S_check_bead, e] <;> simp_all
theorem check_bead_good {vs : List Val} {i : Int} (hl : flats vs = true) (h0 : 0 ≤ i) (h1 : i < (vs.length : Int)) : pure' F_check_bead [.lst vs, .int i] = .ok .non [] :=
  pure_none (by simp [S_check_bead, number_int, h0, h1])
theorem check_stretch_bad {vs : List Val} {v u : Val} (hl : flats vs = true) (h : pv v = true) (h' : pv u = true) (hb : countB vs.length v = false ∨ countB vs.length u = false ∨ ∃ i j, v = .int i ∧ u = .int j ∧ j < i) : pure' F_check_stretch [.lst vs, v, u] = .er "BadBead" [] := by
  have f := pv_flat v h
  have f' := pv_flat u h'
  refine pure_err ?_
  cases h1 : countB vs.length v with
  | false => simp [S_check_stretch, check_bead_bad hl h h1, hl, f]
  | true =>
    have g1 : ∃ i, v = .int i ∧ 0 ≤ i ∧ i < (vs.length : Int) := by
      cases v with
      | int i => simp only [countB, Bool.and_eq_true, decide_eq_true_eq] at h1; exact ⟨i, rfl, h1⟩
      | _ => simp only [countB] at h1; cases h1
    obtain ⟨i, rfl, g2, g3⟩ := g1
    cases h2 : countB vs.length u with
    | false => simp [S_check_stretch, check_bead_good hl g2 g3, check_bead_bad hl h' h2, hl, f']
    | true =>
      obtain ⟨i', j, e1, rfl, hlt⟩ := (hb.resolve_left (by simp [h1])).resolve_left (by simp [h2])
      cases e1
      simp only [countB, Bool.and_eq_true, decide_eq_true_eq] at h2
      simp [S_check_stretch, check_bead_good hl g2 g3, check_bead_good hl h2.1 h2.2, hl, hlt]
theorem check_stretch_good {vs : List Val} {i j : Int} (hl : flats vs = true) (h0 : 0 ≤ i) (h1 : i ≤ j) (h2 : j < (vs.length : Int)) : pure' F_check_stretch [.lst vs, .int i, .int j] = .ok .non [] := by
  have : ¬ j < i := by omega
  exact pure_none (by simp [S_check_stretch, check_bead_good hl h0 (show i < (vs.length : Int) by omega), check_bead_good hl (show 0 ≤ j by omega) h2, hl, this])
def weightB : Val → Bool
  | .int w => decide (1 ≤ w) && decide (w ≤ 60)
  | _ => false
theorem check_weight_bad {v : Val} (h : pv v = true) (hb : weightB v = false) : pure' F_check_weight [v] = .er "BadWeight" [] := by
  have f := pv_flat v h
  have e := is_number_val h
  refine pure_err ?_
  cases v with
  | int i =>
    simp only [numB] at e
    simp only [weightB, Bool.and_eq_false_iff, decide_eq_false_iff_not] at hb
    by_cases h0 : 1 ≤ i
    · have h1 : ¬ i ≤ 60 := hb.resolve_left (fun z => z h0)
      simp [S_check_weight, e, h0, h1]
    · simp [S_check_weight, e, h0]
  | _ => simp only [numB] at e; simp [S_check_weight, e] <;> simp_all
theorem check_weight_good {i : Int} (h0 : 1 ≤ i) (h1 : i ≤ 60) : pure' F_check_weight [.int i] = .ok .non [] := pure_none (by simp [S_check_weight, number_int, h0, h1])
theorem check_row_good {v : Val} (hb : rowB v = true) : pure' F_check_row [v] = .ok .non [] := by
  obtain ⟨l, rfl, hl⟩ := row_enc hb
  exact check_row_eq hl
end
end Bd

namespace Bd
noncomputable section
open PySem L2
/-! ## what the laws of refusals share -/
def exo : Option Val → Bool
  | some v => exf v
  | none => true
theorem xsl_cons {o : Option Val} {σ : Sg} : exsl (o :: σ) = (exo o && exsl σ) := by cases o <;> rfl
@[simp] theorem exo_some {v : Val} : exo (some v) = exf v := rfl
@[simp] theorem exo_none : exo none = true := rfl
theorem rds_same {st : Sto} {n : Nat} {l : List Val} (h : ∀ v ∈ l, rd st n v = some v) : rds st (n + 1) l = some l := by
  have := rds_map (f := fun v : Val => v) (st := st) (n := n) (l := l) h
  simpa using this
theorem rds_app {st : Sto} {n : Nat} : ∀ {a b a' b' : List Val}, rds st (n + 1) a = some a' → rds st (n + 1) b = some b' → rds st (n + 1) (a ++ b) = some (a' ++ b')
  | [], b, a', b', h, h' => by simp at h; subst h; simpa using h'
  | v :: a, b, a', b', h, h' => by
    rw [rs_cons] at h
    cases e1 : rd st n v with
    | none => rw [e1] at h; cases h
    | some d =>
      rw [e1] at h
      cases e2 : rds st (n + 1) a with
      | none => rw [e2] at h; cases h
      | some ds =>
        rw [e2] at h
        cases h
        rw [List.cons_append, rs_cons, e1, rds_app e2 h']
        rfl
theorem gcd_two (c : Int) : ¬ Int.gcd (2 * c + 2) (4 * c + 4) = 1 := by
  intro h
  have d : (2 : Int) ∣ ((Int.gcd (2 * c + 2) (4 * c + 4) : Nat) : Int) := Int.dvd_coe_gcd ⟨c + 1, by omega⟩ ⟨2 * c + 2, by omega⟩
  rw [h] at d
  omega
theorem pvs_of {l : List Val} (h : ∀ v ∈ l, pv v = true) : pvs l = true := by
  rw [pvs_all]; exact List.all_eq_true.mpr h
theorem set_cases {l : List Val} {m : Nat} {b : Val} {P : Val → Prop} (h : ∀ v ∈ l, P v) (hb : P b) : ∀ v ∈ l.set m b, P v := fun v hv => by
  rcases List.mem_or_eq_of_mem_set hv with hv | rfl
  · exact h v hv
  · exact hb
/-- what a list of a row needs to be one of no row: a bead that is none -/
theorem rowB_bad {l : List Val} {m : Nat} {b : Val} (hm : m < l.length) (hb : beadB b = false) : rowB (.lst (l.set m b)) = false := by
  have : (l.set m b).all beadB = false := List.all_eq_false.mpr ⟨b, List.mem_iff_getElem?.mpr ⟨m, List.getElem?_set_self hm⟩, by simp [hb]⟩
  simp [rowB, this]
theorem rowB_one {b : Val} (hb : beadB b = false) : rowB (.lst [b]) = false := by simp [rowB, hb]
theorem al_BadShare : pure' F_law_alone [.ex "BadShare", .int 0] = .ok (.bl true) [] := by
  have h := alone_BadShare 0
  have e : (decide (errIxs "BadShare" = (List.range 13).map fun k : Nat => decide ((k : Int) = 0))) = true := by decide
  rw [e] at h
  exact h
theorem al_BadRow : pure' F_law_alone [.ex "BadRow", .int 1] = .ok (.bl true) [] := by
  have h := alone_BadRow 1
  have e : (decide (errIxs "BadRow" = (List.range 13).map fun k : Nat => decide ((k : Int) = 1))) = true := by decide
  rw [e] at h
  exact h
theorem al_BadBead : pure' F_law_alone [.ex "BadBead", .int 2] = .ok (.bl true) [] := by
  have h := alone_BadBead 2
  have e : (decide (errIxs "BadBead" = (List.range 13).map fun k : Nat => decide ((k : Int) = 2))) = true := by decide
  rw [e] at h
  exact h
theorem al_BadWeight : pure' F_law_alone [.ex "BadWeight", .int 3] = .ok (.bl true) [] := by
  have h := alone_BadWeight 3
  have e : (decide (errIxs "BadWeight" = (List.range 13).map fun k : Nat => decide ((k : Int) = 3))) = true := by decide
  rw [e] at h
  exact h
theorem al_BadMoment : pure' F_law_alone [.ex "BadMoment", .int 4] = .ok (.bl true) [] := by
  have h := alone_BadMoment 4
  have e : (decide (errIxs "BadMoment" = (List.range 13).map fun k : Nat => decide ((k : Int) = 4))) = true := by decide
  rw [e] at h
  exact h
theorem al_BadKind : pure' F_law_alone [.ex "BadKind", .int 5] = .ok (.bl true) [] := by
  have h := alone_BadKind 5
  have e : (decide (errIxs "BadKind" = (List.range 13).map fun k : Nat => decide ((k : Int) = 5))) = true := by decide
  rw [e] at h
  exact h
theorem al_BadEvents : pure' F_law_alone [.ex "BadEvents", .int 6] = .ok (.bl true) [] := by
  have h := alone_BadEvents 6
  have e : (decide (errIxs "BadEvents" = (List.range 13).map fun k : Nat => decide ((k : Int) = 6))) = true := by decide
  rw [e] at h
  exact h
theorem al_BadText : pure' F_law_alone [.ex "BadText", .int 7] = .ok (.bl true) [] := by
  have h := alone_BadText 7
  have e : (decide (errIxs "BadText" = (List.range 13).map fun k : Nat => decide ((k : Int) = 7))) = true := by decide
  rw [e] at h
  exact h
theorem al_Unlike : pure' F_law_alone [.ex "Unlike", .int 8] = .ok (.bl true) [] := by
  have h := alone_Unlike 8
  have e : (decide (errIxs "Unlike" = (List.range 13).map fun k : Nat => decide ((k : Int) = 8))) = true := by decide
  rw [e] at h
  exact h
theorem al_Together : pure' F_law_alone [.ex "Together", .int 9] = .ok (.bl true) [] := by
  have h := alone_Together 9
  have e : (decide (errIxs "Together" = (List.range 13).map fun k : Nat => decide ((k : Int) = 9))) = true := by decide
  rw [e] at h
  exact h
theorem al_Crowded : pure' F_law_alone [.ex "Crowded", .int 10] = .ok (.bl true) [] := by
  have h := alone_Crowded 10
  have e : (decide (errIxs "Crowded" = (List.range 13).map fun k : Nat => decide ((k : Int) = 10))) = true := by decide
  rw [e] at h
  exact h
theorem al_TooMany : pure' F_law_alone [.ex "TooMany", .int 11] = .ok (.bl true) [] := by
  have h := alone_TooMany 11
  have e : (decide (errIxs "TooMany" = (List.range 13).map fun k : Nat => decide ((k : Int) = 11))) = true := by decide
  rw [e] at h
  exact h
theorem al_TooFar : pure' F_law_alone [.ex "TooFar", .int 12] = .ok (.bl true) [] := by
  have h := alone_TooFar 12
  have e : (decide (errIxs "TooFar" = (List.range 13).map fun k : Nat => decide ((k : Int) = 12))) = true := by decide
  rw [e] at h
  exact h
end
end Bd

namespace Bd
noncomputable section
open PySem L2
/-! ## stretches: what they weigh, their sums, their middles -/
def seg (l : List Bead) (f e : Nat) : List Bead := (l.drop f).take (e + 1 - f)
theorem cut_seg {α : Type} (g : Bead → α) {l : List Bead} {f e : Nat} (h1 : f ≤ e) (h2 : e < l.length) : cutG (l.map g) (some (f : Int)) (some ((e : Int) + 1)) = (seg l f e).map g := by
  unfold cutG seg
  have e1 : ((e : Int) + 1) = ((e + 1 : Nat) : Int) := by omega
  rw [e1, HT.sIx_nat, HT.sIx_nat, List.length_map]
  have m1 : min f l.length = f := by omega
  have m2 : min (e + 1) l.length = e + 1 := by omega
  simp only [m1, m2]
  simp [List.map_take, List.map_drop]
theorem seg_len {l : List Bead} {f e : Nat} (h1 : f ≤ e) (h2 : e < l.length) : (seg l f e).length = e + 1 - f := by simp [seg]; omega
theorem seg_ne {l : List Bead} {f e : Nat} (h1 : f ≤ e) (h2 : e < l.length) : seg l f e ≠ [] := fun z => by
  have := seg_len h1 h2
  rw [z] at this
  simp at this
  omega
theorem seg_mem {l : List Bead} {f e : Nat} {b : Bead} (h : b ∈ seg l f e) : b ∈ l := List.mem_of_mem_drop (List.mem_of_mem_take h)
def wp (l : List Bead) : List (Int × Rat) := l.map fun b => (b.w, b.p)
def wv (l : List Bead) : List (Int × Rat) := l.map fun b => (b.w, b.v)
theorem wp_sum (l : List Bead) : (l.map (·.w)).sum = wsum (wp l) := by
  induction l with
  | nil => rfl
  | cons b l ih =>
    show b.w + (l.map (·.w)).sum = b.w + wsum (wp l)
    rw [ih]
theorem wv_sum (l : List Bead) : wsum (wv l) = wsum (wp l) := by
  induction l with
  | nil => rfl
  | cons b l ih =>
    show b.w + wsum (wv l) = b.w + wsum (wp l)
    rw [ih]
theorem intsOf_mapf {α : Type} (f : α → Int) : ∀ l : List α, intsOf (l.map fun x => Val.int (f x)) = some (l.map f)
  | [] => rfl
  | x :: l => by
    show (intsOf (l.map fun x => Val.int (f x))).map (f x :: ·) = _
    rw [intsOf_mapf f l]
    rfl
theorem weight_in_eq {l : List Bead} {f e : Nat} (h1 : f ≤ e) (h2 : e < l.length) (hl : l.length ≤ 1000) : pure' F_weight_in [.lst (l.map encB), .int (f : Int), .int (e : Int)] = .ok (.int (wsum (wp (seg l f e)))) [] := by
  have c := cut_seg encB h1 h2
  have ln := seg_len h1 h2
  have k := eComp_map (it := iSeq (eSl (eVar 0) (pSome (eVar 1)) (pSome (eBin kAdd (eVar 2) (eC (.int 1)))))) (t := .nm 3) (own := [3]) (c := bYes) (f := eBin kIx (eVar 3) (eC (.int 0))) (σ := [some (.lst (l.map encB)), some (.int (f : Int)), some (.int (e : Int)), none]) (st := []) (g := encB) (h := fun b => Val.int b.w) (p := fun _ => true) (l := seg l f e)
    (still := fun st' => seqOf st' (.lst ((seg l f e).map encB)) = some ((seg l f e).map encB)) (by simp [c]) rfl (by omega) fun b _ => ⟨_, by simp; rfl, by simp, fun _ => by simp⟩
  rw [List.filter_eq_self.mpr (by simp)] at k
  refine pure_rt (st := []) (v := .int (wsum (wp (seg l f e)))) ?_ (by simp)
  generalize hC : eComp (iSeq (eSl (eVar 0) (pSome (eVar 1)) (pSome (eBin kAdd (eVar 2) (eC (.int 1)))))) (.nm 3) [3] bYes (eBin kIx (eVar 3) (eC (.int 0))) = C at k
  have i := intsOf_mapf (fun b : Bead => b.w) (seg l f e)
  generalize hD : ((seg l f e).map fun b => Val.int b.w) = D at k i
  have s := wp_sum (seg l f e)
  simp only [S_weight_in, hC]
  simp [k, i, s]
/-- the places (1) or the speeds (2) -/
def wx (part : Bool) (l : List Bead) : List (Int × Rat) := if part then wv l else wp l
def bx (part : Bool) (b : Bead) : Rat := if part then b.v else b.p
theorem wx_cons (part : Bool) (b : Bead) (l : List Bead) : wx part (b :: l) = (b.w, bx part b) :: wx part l := by cases part <;> rfl
theorem sum_loop {part : Bool} {still : Sto → Prop} {s0 s1 s2 s3 : Option Val} {st : Sto} (hst : still st) (h3 : s3 = some (.int (if part then 2 else 1))) : ∀ {l : List Bead} {a : Nat} {acc : Rat} {s5 : Option Val}, (∀ b ∈ l, BeadOk b) → Sq a acc → a + l.length * 31 ≤ 6000 →
      ∃ t5, forL (.nm 5) (sAsg (.nm 4) (eCallP F_added [] (aCons (eVar 4) (aCons (eCallP F_product [] (aCons (eTup (aCons (eBin kIx (eVar 5) (eC (.int 0))) (aCons (eC (.int 1)) aNil))) (aCons (eBin kIx (eVar 5) (eVar 3)) aNil))) aNil)))) still (l.map encB) [s0, s1, s2, s3, some (encQ acc), s5] st = .nx [s0, s1, s2, s3, some (encQ (acc + dot (wx part l))), t5] st
  | [], a, acc, s5, _, _, _ => ⟨s5, by cases part <;> simp [wx, wv, wp, dot, Rat.add_zero]⟩
  | b :: l, a, acc, s5, h, ha, hs => by
    rw [List.length_cons, Nat.succ_mul] at hs
    have h1 := h b (by simp)
    have mx : Mild (bx part b) := by cases part; exact h1.p; exact h1.v
    have p1 := product_eq (h1.w.ws.sq.sz mx.sq (by omega))
    have sz := h1.w.ws.sq.mul mx.sq
    have p2 := added_eq (ha.sz sz (by omega))
    obtain ⟨t5, e⟩ := sum_loop (s0 := s0) (s1 := s1) (s2 := s2) hst h3 (l := l) (a := a + 31) (acc := acc + (b.w : Rat) * bx part b) (s5 := some (encB b)) (fun r hr => h r (by simp [hr])) ((ha.add sz).mono (by omega)) (by omega)
    refine ⟨t5, ?_⟩
    have e3 : kIx (encB b) (.int (if part then 2 else 1)) st = .ok (encQ (bx part b)) st := by cases part <;> simp [bx]
    rw [List.map_cons, forL_cons, wx_cons, dot, ← Rat.add_assoc]
    subst h3
    cases part <;> simp [bx] at e3 p1 p2 e ⊢ <;> simp [fold_int1, p1, p2, hst, e]
theorem sum_in_eq {l : List Bead} (hl : ∀ b ∈ l, BeadOk b) (hn : l.length ≤ 100) {f e : Nat} (h1 : f ≤ e) (h2 : e < l.length) (part : Bool) : pure' F_sum_in [.lst (l.map encB), .int (f : Int), .int (e : Int), .int (if part then 2 else 1)] = .ok (encQ (dot (wx part (seg l f e)))) [] := by
  have c := cut_seg encB h1 h2
  have ln := seg_len h1 h2
  obtain ⟨t5, k⟩ := sum_loop (part := part) (still := fun st' => seqOf st' (.lst ((seg l f e).map encB)) = some ((seg l f e).map encB)) (s0 := some (.lst (l.map encB))) (s1 := some (.int (f : Int))) (s2 := some (.int (e : Int))) (st := []) rfl rfl (l := seg l f e) (a := 1) (acc := 0) (s5 := none) (fun b hb => hl b (seg_mem hb)) ⟨by decide +kernel, by decide +kernel⟩ (by omega)
  rw [Rat.zero_add] at k
  have z : encQ 0 = .tup [.int 0, .int 1] := enc_eq (by decide +kernel) (by decide +kernel)
  rw [z] at k
  refine pure_rt (st := []) (v := encQ (dot (wx part (seg l f e)))) ?_ (by simp)
  generalize hP : Val.int (if part then 2 else 1) = P at k ⊢
  simp at k
  simp [S_sum_in, c, k]
theorem wx_ok {part : Bool} {l : List Bead} (h : ∀ b ∈ l, BeadOk b) : ∀ p ∈ wx part l, Ws p.1 ∧ Sq 20 p.2 := by
  intro p hp
  cases part
  · obtain ⟨b, hb, rfl⟩ := List.mem_map.mp hp
    exact ⟨(h b hb).w.ws, (h b hb).p.sq⟩
  · obtain ⟨b, hb, rfl⟩ := List.mem_map.mp hp
    exact ⟨(h b hb).w.ws, (h b hb).v.sq⟩
theorem wx_len {part : Bool} {l : List Bead} : (wx part l).length = l.length := by cases part <;> simp [wx, wv, wp]
theorem wx_ne {part : Bool} {l : List Bead} (h : l ≠ []) : wx part l ≠ [] := fun z => h (List.length_eq_zero_iff.mp (by rw [← wx_len (part := part), z]; rfl))
theorem wx_sum {part : Bool} {l : List Bead} : wsum (wx part l) = wsum (wp l) := by
  cases part
  · rfl
  · exact wv_sum l
/-- the straight way of a stretch's middle -/
def lineP (l : List Bead) (f e : Nat) : Rat := mid (wp (seg l f e))
def lineV (l : List Bead) (f e : Nat) : Rat := mid (wv (seg l f e))
theorem mid_sq {part : Bool} {l : List Bead} (hl : ∀ b ∈ l, BeadOk b) (hn : l.length ≤ 10) {f e : Nat} (h1 : f ≤ e) (h2 : e < l.length) : Sq 340 (mid (wx part (seg l f e))) := by
  have ln := seg_len h1 h2
  have := Sq.mid (wx_ok (part := part) fun b hb => hl b (seg_mem hb)) (wx_ne (seg_ne h1 h2)) (by rw [wx_len]; omega)
  exact this.mono (by rw [wx_len]; omega)
theorem line_in_eq {l : List Bead} (hl : ∀ b ∈ l, BeadOk b) (hn : l.length ≤ 10) {f e : Nat} (h1 : f ≤ e) (h2 : e < l.length) : pure' F_line_in [.lst (l.map encB), .int (f : Int), .int (e : Int)] = .ok (.tup [encQ (lineP l f e), encQ (lineV l f e)]) [] := by
  have ln := seg_len h1 h2
  have w := weight_in_eq h1 h2 (by omega)
  have okp := wx_ok (part := false) (l := seg l f e) fun b hb => hl b (seg_mem hb)
  have okv := wx_ok (part := true) (l := seg l f e) fun b hb => hl b (seg_mem hb)
  have s1 := sum_in_eq hl (by omega) h1 h2 false
  have s2 := sum_in_eq hl (by omega) h1 h2 true
  have wpos : 0 < wsum (wp (seg l f e)) := wsum_pos (fun p hp => (okp p hp).1) (wx_ne (part := false) (seg_ne h1 h2))
  have wb : Bt 23 (wsum (wp (seg l f e))) := wsum_bt (fun p hp => (okp p hp).1) (by rw [show wp (seg l f e) = wx false (seg l f e) from rfl, wx_len]; omega)
  have q1 := quotient_eq (((Sq.dot okp).mono (m := 320) (by rw [wx_len]; omega)).sz (Sq.int (n := 22) wb) (by omega)) (cast_ne (show wsum (wp (seg l f e)) ≠ 0 by omega))
  have q2 := quotient_eq (((Sq.dot okv).mono (m := 320) (by rw [wx_len]; omega)).sz (Sq.int (n := 22) wb) (by omega)) (cast_ne (show wsum (wp (seg l f e)) ≠ 0 by omega))
  have e1 : dot (wx false (seg l f e)) / (wsum (wp (seg l f e)) : Rat) = lineP l f e := rfl
  have e2 : dot (wx true (seg l f e)) / (wsum (wp (seg l f e)) : Rat) = lineV l f e := by
    unfold lineV mid
    rw [wv_sum]; rfl
  rw [e1] at q1
  rw [e2] at q2
  simp at s1 s2
  refine pure_rt (st := []) (v := .tup [encQ (lineP l f e), encQ (lineV l f e)]) ?_ (by simp)
  simp [S_line_in, w, s1, s2, fold_int1, q1, q2]
theorem lineP_sq {l : List Bead} (hl : ∀ b ∈ l, BeadOk b) (hn : l.length ≤ 10) {f e : Nat} (h1 : f ≤ e) (h2 : e < l.length) : Sq 340 (lineP l f e) := mid_sq (part := false) hl hn h1 h2
theorem lineV_sq {l : List Bead} (hl : ∀ b ∈ l, BeadOk b) (hn : l.length ≤ 10) {f e : Nat} (h1 : f ≤ e) (h2 : e < l.length) : Sq 340 (lineV l f e) := mid_sq (part := true) hl hn h1 h2
theorem at_moment_eq {n m : Nat} {p v t : Rat} (hp : Sq n p) (hv : Sq n v) (ht : Sq m t) (h : n + n + m ≤ 8990) : pure' F_at_moment [.tup [encQ p, encQ v], encQ t] = .ok (encQ (p + v * t)) [] := by
  have p1 := product_eq (hv.sz ht (by omega))
  have p2 := added_eq (hp.sz (hv.mul ht) (by omega))
  exact pure_rt (st := []) (v := encQ (p + v * t)) (by simp [S_at_moment, p1, p2]) (by simp)
theorem middle_in_eq {l : List Bead} (hl : ∀ b ∈ l, BeadOk b) (hn : l.length ≤ 10) {f e m : Nat} {t : Rat} (h1 : f ≤ e) (h2 : e < l.length) (ht : Sq m t) (hm : m ≤ 8000) : pure' F_middle_in [.lst (l.map encB), .int (f : Int), .int (e : Int), encQ t] = .ok (encQ (lineP l f e + lineV l f e * t)) [] := by
  have a := line_in_eq hl hn h1 h2
  have b := at_moment_eq (lineP_sq hl hn h1 h2) (lineV_sq hl hn h1 h2) ht (by omega)
  exact pure_rt (st := []) (v := encQ (lineP l f e + lineV l f e * t)) (by simp [S_middle_in, a, b]) (by simp)
/-! the doors of good rows -/
theorem weight_of_eq {l : List Bead} (h : RowOk l) {f e : Nat} (h1 : f ≤ e) (h2 : e < l.length) : pure' F_weight_of [.lst (l.map encB), .int (f : Int), .int (e : Int)] = .ok (.int (wsum (wp (seg l f e)))) [] := by
  have c := check_row_eq h
  have s := check_stretch_good (vs := l.map encB) flats_beads (i := (f : Int)) (j := (e : Int)) (by omega) (by omega) (by simpa using h2)
  have w := weight_in_eq h1 h2 (by have := h.len; omega)
  exact pure_rt (st := []) (v := .int (wsum (wp (seg l f e)))) (by simp [S_weight_of, c, s, w]) (by simp)
theorem drive_of_eq {l : List Bead} (h : RowOk l) {f e : Nat} (h1 : f ≤ e) (h2 : e < l.length) : pure' F_drive_of [.lst (l.map encB), .int (f : Int), .int (e : Int)] = .ok (encQ (dot (wv (seg l f e)))) [] := by
  have c := check_row_eq h
  have s := check_stretch_good (vs := l.map encB) flats_beads (i := (f : Int)) (j := (e : Int)) (by omega) (by omega) (by simpa using h2)
  have w := sum_in_eq h.ok (by have := h.len; omega) h1 h2 true
  simp [wx] at w
  exact pure_rt (st := []) (v := encQ (dot (wv (seg l f e)))) (by simp [S_drive_of, c, s, w]) (by simp)
theorem middle_eq {l : List Bead} (h : RowOk l) {f e m : Nat} {t : Rat} (h1 : f ≤ e) (h2 : e < l.length) (ht : Sq m t) (hm : m ≤ 8000) (h0 : 0 ≤ t) : pure' F_middle [.lst (l.map encB), .int (f : Int), .int (e : Int), encQ t] = .ok (encQ (lineP l f e + lineV l f e * t)) [] := by
  have c := check_row_eq h
  have s := check_stretch_good (vs := l.map encB) flats_beads (i := (f : Int)) (j := (e : Int)) (by omega) (by omega) (by simpa using h2)
  have w := middle_in_eq h.ok h.len h1 h2 ht hm
  exact pure_rt (st := []) (v := encQ (lineP l f e + lineV l f e * t)) (by simp [S_middle, c, s, check_moment_eq h0, w]) (by simp)
theorem straight_eq {l : List Bead} (h : RowOk l) {f m : Nat} {t : Rat} (h2 : f < l.length) (ht : Sq m t) (hm : m ≤ 8000) (h0 : 0 ≤ t) : pure' F_straight [.lst (l.map encB), .int (f : Int), encQ t] = .ok (encQ (lineP l f f + lineV l f f * t)) [] := by
  have c := check_row_eq h
  have s := check_bead_good (vs := l.map encB) flats_beads (i := (f : Int)) (by omega) (by simpa using h2)
  have w := middle_in_eq h.ok h.len (Nat.le_refl f) h2 ht hm
  exact pure_rt (st := []) (v := encQ (lineP l f f + lineV l f f * t)) (by simp [S_straight, c, s, check_moment_eq h0, w]) (by simp)
end
end Bd

namespace Bd
noncomputable section
open PySem L2
/-! names that differ: classes, fields, methods -/
@[simp] theorem sn2_Meet_Never : ((Str.ofString "Meet" = Str.ofString "Never") ↔ False) := iff_false_intro (by decide)
@[simp] theorem sb2_Meet_Never : (Str.ofString "Meet" == Str.ofString "Never") = false := by decide
@[simp] theorem sn2_Meet_One : ((Str.ofString "Meet" = Str.ofString "One") ↔ False) := iff_false_intro (by decide)
@[simp] theorem sb2_Meet_One : (Str.ofString "Meet" == Str.ofString "One") = false := by decide
@[simp] theorem sn2_Meet_Parted : ((Str.ofString "Meet" = Str.ofString "Parted") ↔ False) := iff_false_intro (by decide)
@[simp] theorem sb2_Meet_Parted : (Str.ofString "Meet" == Str.ofString "Parted") = false := by decide
@[simp] theorem sn2_Meet_Right : ((Str.ofString "Meet" = Str.ofString "Right") ↔ False) := iff_false_intro (by decide)
@[simp] theorem sb2_Meet_Right : (Str.ofString "Meet" == Str.ofString "Right") = false := by decide
@[simp] theorem sn2_Meet_Wrong : ((Str.ofString "Meet" = Str.ofString "Wrong") ↔ False) := iff_false_intro (by decide)
@[simp] theorem sb2_Meet_Wrong : (Str.ofString "Meet" == Str.ofString "Wrong") = false := by decide
@[simp] theorem sn2_Meet_Run : ((Str.ofString "Meet" = Str.ofString "Run") ↔ False) := iff_false_intro (by decide)
@[simp] theorem sb2_Meet_Run : (Str.ofString "Meet" == Str.ofString "Run") = false := by decide
@[simp] theorem sn2_Meet_Story : ((Str.ofString "Meet" = Str.ofString "Story") ↔ False) := iff_false_intro (by decide)
@[simp] theorem sb2_Meet_Story : (Str.ofString "Meet" == Str.ofString "Story") = false := by decide
@[simp] theorem sn2_Meet_Answer : ((Str.ofString "Meet" = Str.ofString "Answer") ↔ False) := iff_false_intro (by decide)
@[simp] theorem sb2_Meet_Answer : (Str.ofString "Meet" == Str.ofString "Answer") = false := by decide
@[simp] theorem sn2_Never_Meet : ((Str.ofString "Never" = Str.ofString "Meet") ↔ False) := iff_false_intro (by decide)
@[simp] theorem sb2_Never_Meet : (Str.ofString "Never" == Str.ofString "Meet") = false := by decide
@[simp] theorem sn2_Never_One : ((Str.ofString "Never" = Str.ofString "One") ↔ False) := iff_false_intro (by decide)
@[simp] theorem sb2_Never_One : (Str.ofString "Never" == Str.ofString "One") = false := by decide
@[simp] theorem sn2_Never_Parted : ((Str.ofString "Never" = Str.ofString "Parted") ↔ False) := iff_false_intro (by decide)
@[simp] theorem sb2_Never_Parted : (Str.ofString "Never" == Str.ofString "Parted") = false := by decide
@[simp] theorem sn2_Never_Right : ((Str.ofString "Never" = Str.ofString "Right") ↔ False) := iff_false_intro (by decide)
@[simp] theorem sb2_Never_Right : (Str.ofString "Never" == Str.ofString "Right") = false := by decide
@[simp] theorem sn2_Never_Wrong : ((Str.ofString "Never" = Str.ofString "Wrong") ↔ False) := iff_false_intro (by decide)
@[simp] theorem sb2_Never_Wrong : (Str.ofString "Never" == Str.ofString "Wrong") = false := by decide
@[simp] theorem sn2_Never_Run : ((Str.ofString "Never" = Str.ofString "Run") ↔ False) := iff_false_intro (by decide)
@[simp] theorem sb2_Never_Run : (Str.ofString "Never" == Str.ofString "Run") = false := by decide
@[simp] theorem sn2_Never_Story : ((Str.ofString "Never" = Str.ofString "Story") ↔ False) := iff_false_intro (by decide)
@[simp] theorem sb2_Never_Story : (Str.ofString "Never" == Str.ofString "Story") = false := by decide
@[simp] theorem sn2_Never_Answer : ((Str.ofString "Never" = Str.ofString "Answer") ↔ False) := iff_false_intro (by decide)
@[simp] theorem sb2_Never_Answer : (Str.ofString "Never" == Str.ofString "Answer") = false := by decide
@[simp] theorem sn2_One_Meet : ((Str.ofString "One" = Str.ofString "Meet") ↔ False) := iff_false_intro (by decide)
@[simp] theorem sb2_One_Meet : (Str.ofString "One" == Str.ofString "Meet") = false := by decide
@[simp] theorem sn2_One_Never : ((Str.ofString "One" = Str.ofString "Never") ↔ False) := iff_false_intro (by decide)
@[simp] theorem sb2_One_Never : (Str.ofString "One" == Str.ofString "Never") = false := by decide
@[simp] theorem sn2_One_Parted : ((Str.ofString "One" = Str.ofString "Parted") ↔ False) := iff_false_intro (by decide)
@[simp] theorem sb2_One_Parted : (Str.ofString "One" == Str.ofString "Parted") = false := by decide
@[simp] theorem sn2_One_Right : ((Str.ofString "One" = Str.ofString "Right") ↔ False) := iff_false_intro (by decide)
@[simp] theorem sb2_One_Right : (Str.ofString "One" == Str.ofString "Right") = false := by decide
@[simp] theorem sn2_One_Wrong : ((Str.ofString "One" = Str.ofString "Wrong") ↔ False) := iff_false_intro (by decide)
@[simp] theorem sb2_One_Wrong : (Str.ofString "One" == Str.ofString "Wrong") = false := by decide
@[simp] theorem sn2_One_Run : ((Str.ofString "One" = Str.ofString "Run") ↔ False) := iff_false_intro (by decide)
@[simp] theorem sb2_One_Run : (Str.ofString "One" == Str.ofString "Run") = false := by decide
@[simp] theorem sn2_One_Story : ((Str.ofString "One" = Str.ofString "Story") ↔ False) := iff_false_intro (by decide)
@[simp] theorem sb2_One_Story : (Str.ofString "One" == Str.ofString "Story") = false := by decide
@[simp] theorem sn2_One_Answer : ((Str.ofString "One" = Str.ofString "Answer") ↔ False) := iff_false_intro (by decide)
@[simp] theorem sb2_One_Answer : (Str.ofString "One" == Str.ofString "Answer") = false := by decide
@[simp] theorem sn2_Parted_Meet : ((Str.ofString "Parted" = Str.ofString "Meet") ↔ False) := iff_false_intro (by decide)
@[simp] theorem sb2_Parted_Meet : (Str.ofString "Parted" == Str.ofString "Meet") = false := by decide
@[simp] theorem sn2_Parted_Never : ((Str.ofString "Parted" = Str.ofString "Never") ↔ False) := iff_false_intro (by decide)
@[simp] theorem sb2_Parted_Never : (Str.ofString "Parted" == Str.ofString "Never") = false := by decide
@[simp] theorem sn2_Parted_One : ((Str.ofString "Parted" = Str.ofString "One") ↔ False) := iff_false_intro (by decide)
@[simp] theorem sb2_Parted_One : (Str.ofString "Parted" == Str.ofString "One") = false := by decide
@[simp] theorem sn2_Parted_Right : ((Str.ofString "Parted" = Str.ofString "Right") ↔ False) := iff_false_intro (by decide)
@[simp] theorem sb2_Parted_Right : (Str.ofString "Parted" == Str.ofString "Right") = false := by decide
@[simp] theorem sn2_Parted_Wrong : ((Str.ofString "Parted" = Str.ofString "Wrong") ↔ False) := iff_false_intro (by decide)
@[simp] theorem sb2_Parted_Wrong : (Str.ofString "Parted" == Str.ofString "Wrong") = false := by decide
@[simp] theorem sn2_Parted_Run : ((Str.ofString "Parted" = Str.ofString "Run") ↔ False) := iff_false_intro (by decide)
@[simp] theorem sb2_Parted_Run : (Str.ofString "Parted" == Str.ofString "Run") = false := by decide
@[simp] theorem sn2_Parted_Story : ((Str.ofString "Parted" = Str.ofString "Story") ↔ False) := iff_false_intro (by decide)
@[simp] theorem sb2_Parted_Story : (Str.ofString "Parted" == Str.ofString "Story") = false := by decide
@[simp] theorem sn2_Parted_Answer : ((Str.ofString "Parted" = Str.ofString "Answer") ↔ False) := iff_false_intro (by decide)
@[simp] theorem sb2_Parted_Answer : (Str.ofString "Parted" == Str.ofString "Answer") = false := by decide
@[simp] theorem sn2_Right_Meet : ((Str.ofString "Right" = Str.ofString "Meet") ↔ False) := iff_false_intro (by decide)
@[simp] theorem sb2_Right_Meet : (Str.ofString "Right" == Str.ofString "Meet") = false := by decide
@[simp] theorem sn2_Right_Never : ((Str.ofString "Right" = Str.ofString "Never") ↔ False) := iff_false_intro (by decide)
@[simp] theorem sb2_Right_Never : (Str.ofString "Right" == Str.ofString "Never") = false := by decide
@[simp] theorem sn2_Right_One : ((Str.ofString "Right" = Str.ofString "One") ↔ False) := iff_false_intro (by decide)
@[simp] theorem sb2_Right_One : (Str.ofString "Right" == Str.ofString "One") = false := by decide
@[simp] theorem sn2_Right_Parted : ((Str.ofString "Right" = Str.ofString "Parted") ↔ False) := iff_false_intro (by decide)
@[simp] theorem sb2_Right_Parted : (Str.ofString "Right" == Str.ofString "Parted") = false := by decide
@[simp] theorem sn2_Right_Wrong : ((Str.ofString "Right" = Str.ofString "Wrong") ↔ False) := iff_false_intro (by decide)
@[simp] theorem sb2_Right_Wrong : (Str.ofString "Right" == Str.ofString "Wrong") = false := by decide
@[simp] theorem sn2_Right_Run : ((Str.ofString "Right" = Str.ofString "Run") ↔ False) := iff_false_intro (by decide)
@[simp] theorem sb2_Right_Run : (Str.ofString "Right" == Str.ofString "Run") = false := by decide
@[simp] theorem sn2_Right_Story : ((Str.ofString "Right" = Str.ofString "Story") ↔ False) := iff_false_intro (by decide)
@[simp] theorem sb2_Right_Story : (Str.ofString "Right" == Str.ofString "Story") = false := by decide
@[simp] theorem sn2_Right_Answer : ((Str.ofString "Right" = Str.ofString "Answer") ↔ False) := iff_false_intro (by decide)
@[simp] theorem sb2_Right_Answer : (Str.ofString "Right" == Str.ofString "Answer") = false := by decide
@[simp] theorem sn2_Wrong_Meet : ((Str.ofString "Wrong" = Str.ofString "Meet") ↔ False) := iff_false_intro (by decide)
@[simp] theorem sb2_Wrong_Meet : (Str.ofString "Wrong" == Str.ofString "Meet") = false := by decide
@[simp] theorem sn2_Wrong_Never : ((Str.ofString "Wrong" = Str.ofString "Never") ↔ False) := iff_false_intro (by decide)
@[simp] theorem sb2_Wrong_Never : (Str.ofString "Wrong" == Str.ofString "Never") = false := by decide
@[simp] theorem sn2_Wrong_One : ((Str.ofString "Wrong" = Str.ofString "One") ↔ False) := iff_false_intro (by decide)
@[simp] theorem sb2_Wrong_One : (Str.ofString "Wrong" == Str.ofString "One") = false := by decide
@[simp] theorem sn2_Wrong_Parted : ((Str.ofString "Wrong" = Str.ofString "Parted") ↔ False) := iff_false_intro (by decide)
@[simp] theorem sb2_Wrong_Parted : (Str.ofString "Wrong" == Str.ofString "Parted") = false := by decide
@[simp] theorem sn2_Wrong_Right : ((Str.ofString "Wrong" = Str.ofString "Right") ↔ False) := iff_false_intro (by decide)
@[simp] theorem sb2_Wrong_Right : (Str.ofString "Wrong" == Str.ofString "Right") = false := by decide
@[simp] theorem sn2_Wrong_Run : ((Str.ofString "Wrong" = Str.ofString "Run") ↔ False) := iff_false_intro (by decide)
@[simp] theorem sb2_Wrong_Run : (Str.ofString "Wrong" == Str.ofString "Run") = false := by decide
@[simp] theorem sn2_Wrong_Story : ((Str.ofString "Wrong" = Str.ofString "Story") ↔ False) := iff_false_intro (by decide)
@[simp] theorem sb2_Wrong_Story : (Str.ofString "Wrong" == Str.ofString "Story") = false := by decide
@[simp] theorem sn2_Wrong_Answer : ((Str.ofString "Wrong" = Str.ofString "Answer") ↔ False) := iff_false_intro (by decide)
@[simp] theorem sb2_Wrong_Answer : (Str.ofString "Wrong" == Str.ofString "Answer") = false := by decide
@[simp] theorem sn2_Run_Meet : ((Str.ofString "Run" = Str.ofString "Meet") ↔ False) := iff_false_intro (by decide)
@[simp] theorem sb2_Run_Meet : (Str.ofString "Run" == Str.ofString "Meet") = false := by decide
@[simp] theorem sn2_Run_Never : ((Str.ofString "Run" = Str.ofString "Never") ↔ False) := iff_false_intro (by decide)
@[simp] theorem sb2_Run_Never : (Str.ofString "Run" == Str.ofString "Never") = false := by decide
@[simp] theorem sn2_Run_One : ((Str.ofString "Run" = Str.ofString "One") ↔ False) := iff_false_intro (by decide)
@[simp] theorem sb2_Run_One : (Str.ofString "Run" == Str.ofString "One") = false := by decide
@[simp] theorem sn2_Run_Parted : ((Str.ofString "Run" = Str.ofString "Parted") ↔ False) := iff_false_intro (by decide)
@[simp] theorem sb2_Run_Parted : (Str.ofString "Run" == Str.ofString "Parted") = false := by decide
@[simp] theorem sn2_Run_Right : ((Str.ofString "Run" = Str.ofString "Right") ↔ False) := iff_false_intro (by decide)
@[simp] theorem sb2_Run_Right : (Str.ofString "Run" == Str.ofString "Right") = false := by decide
@[simp] theorem sn2_Run_Wrong : ((Str.ofString "Run" = Str.ofString "Wrong") ↔ False) := iff_false_intro (by decide)
@[simp] theorem sb2_Run_Wrong : (Str.ofString "Run" == Str.ofString "Wrong") = false := by decide
@[simp] theorem sn2_Run_Story : ((Str.ofString "Run" = Str.ofString "Story") ↔ False) := iff_false_intro (by decide)
@[simp] theorem sb2_Run_Story : (Str.ofString "Run" == Str.ofString "Story") = false := by decide
@[simp] theorem sn2_Run_Answer : ((Str.ofString "Run" = Str.ofString "Answer") ↔ False) := iff_false_intro (by decide)
@[simp] theorem sb2_Run_Answer : (Str.ofString "Run" == Str.ofString "Answer") = false := by decide
@[simp] theorem sn2_Story_Meet : ((Str.ofString "Story" = Str.ofString "Meet") ↔ False) := iff_false_intro (by decide)
@[simp] theorem sb2_Story_Meet : (Str.ofString "Story" == Str.ofString "Meet") = false := by decide
@[simp] theorem sn2_Story_Never : ((Str.ofString "Story" = Str.ofString "Never") ↔ False) := iff_false_intro (by decide)
@[simp] theorem sb2_Story_Never : (Str.ofString "Story" == Str.ofString "Never") = false := by decide
@[simp] theorem sn2_Story_One : ((Str.ofString "Story" = Str.ofString "One") ↔ False) := iff_false_intro (by decide)
@[simp] theorem sb2_Story_One : (Str.ofString "Story" == Str.ofString "One") = false := by decide
@[simp] theorem sn2_Story_Parted : ((Str.ofString "Story" = Str.ofString "Parted") ↔ False) := iff_false_intro (by decide)
@[simp] theorem sb2_Story_Parted : (Str.ofString "Story" == Str.ofString "Parted") = false := by decide
@[simp] theorem sn2_Story_Right : ((Str.ofString "Story" = Str.ofString "Right") ↔ False) := iff_false_intro (by decide)
@[simp] theorem sb2_Story_Right : (Str.ofString "Story" == Str.ofString "Right") = false := by decide
@[simp] theorem sn2_Story_Wrong : ((Str.ofString "Story" = Str.ofString "Wrong") ↔ False) := iff_false_intro (by decide)
@[simp] theorem sb2_Story_Wrong : (Str.ofString "Story" == Str.ofString "Wrong") = false := by decide
@[simp] theorem sn2_Story_Run : ((Str.ofString "Story" = Str.ofString "Run") ↔ False) := iff_false_intro (by decide)
@[simp] theorem sb2_Story_Run : (Str.ofString "Story" == Str.ofString "Run") = false := by decide
@[simp] theorem sn2_Story_Answer : ((Str.ofString "Story" = Str.ofString "Answer") ↔ False) := iff_false_intro (by decide)
@[simp] theorem sb2_Story_Answer : (Str.ofString "Story" == Str.ofString "Answer") = false := by decide
@[simp] theorem sn2_Answer_Meet : ((Str.ofString "Answer" = Str.ofString "Meet") ↔ False) := iff_false_intro (by decide)
@[simp] theorem sb2_Answer_Meet : (Str.ofString "Answer" == Str.ofString "Meet") = false := by decide
@[simp] theorem sn2_Answer_Never : ((Str.ofString "Answer" = Str.ofString "Never") ↔ False) := iff_false_intro (by decide)
@[simp] theorem sb2_Answer_Never : (Str.ofString "Answer" == Str.ofString "Never") = false := by decide
@[simp] theorem sn2_Answer_One : ((Str.ofString "Answer" = Str.ofString "One") ↔ False) := iff_false_intro (by decide)
@[simp] theorem sb2_Answer_One : (Str.ofString "Answer" == Str.ofString "One") = false := by decide
@[simp] theorem sn2_Answer_Parted : ((Str.ofString "Answer" = Str.ofString "Parted") ↔ False) := iff_false_intro (by decide)
@[simp] theorem sb2_Answer_Parted : (Str.ofString "Answer" == Str.ofString "Parted") = false := by decide
@[simp] theorem sn2_Answer_Right : ((Str.ofString "Answer" = Str.ofString "Right") ↔ False) := iff_false_intro (by decide)
@[simp] theorem sb2_Answer_Right : (Str.ofString "Answer" == Str.ofString "Right") = false := by decide
@[simp] theorem sn2_Answer_Wrong : ((Str.ofString "Answer" = Str.ofString "Wrong") ↔ False) := iff_false_intro (by decide)
@[simp] theorem sb2_Answer_Wrong : (Str.ofString "Answer" == Str.ofString "Wrong") = false := by decide
@[simp] theorem sn2_Answer_Run : ((Str.ofString "Answer" = Str.ofString "Run") ↔ False) := iff_false_intro (by decide)
@[simp] theorem sb2_Answer_Run : (Str.ofString "Answer" == Str.ofString "Run") = false := by decide
@[simp] theorem sn2_Answer_Story : ((Str.ofString "Answer" = Str.ofString "Story") ↔ False) := iff_false_intro (by decide)
@[simp] theorem sb2_Answer_Story : (Str.ofString "Answer" == Str.ofString "Story") = false := by decide
@[simp] theorem sn2_moment_first : ((Str.ofString "moment" = Str.ofString "first") ↔ False) := iff_false_intro (by decide)
@[simp] theorem sb2_moment_first : (Str.ofString "moment" == Str.ofString "first") = false := by decide
@[simp] theorem sn2_moment_last : ((Str.ofString "moment" = Str.ofString "last") ↔ False) := iff_false_intro (by decide)
@[simp] theorem sb2_moment_last : (Str.ofString "moment" == Str.ofString "last") = false := by decide
@[simp] theorem sn2_moment_cut : ((Str.ofString "moment" = Str.ofString "cut") ↔ False) := iff_false_intro (by decide)
@[simp] theorem sb2_moment_cut : (Str.ofString "moment" == Str.ofString "cut") = false := by decide
@[simp] theorem sn2_moment_count : ((Str.ofString "moment" = Str.ofString "count") ↔ False) := iff_false_intro (by decide)
@[simp] theorem sb2_moment_count : (Str.ofString "moment" == Str.ofString "count") = false := by decide
@[simp] theorem sn2_moment_many : ((Str.ofString "moment" = Str.ofString "many") ↔ False) := iff_false_intro (by decide)
@[simp] theorem sb2_moment_many : (Str.ofString "moment" == Str.ofString "many") = false := by decide
@[simp] theorem sn2_moment_weights : ((Str.ofString "moment" = Str.ofString "weights") ↔ False) := iff_false_intro (by decide)
@[simp] theorem sb2_moment_weights : (Str.ofString "moment" == Str.ofString "weights") = false := by decide
@[simp] theorem sn2_moment_kind : ((Str.ofString "moment" = Str.ofString "kind") ↔ False) := iff_false_intro (by decide)
@[simp] theorem sb2_moment_kind : (Str.ofString "moment" == Str.ofString "kind") = false := by decide
@[simp] theorem sn2_moment_changes : ((Str.ofString "moment" = Str.ofString "changes") ↔ False) := iff_false_intro (by decide)
@[simp] theorem sb2_moment_changes : (Str.ofString "moment" == Str.ofString "changes") = false := by decide
@[simp] theorem sn2_moment_lines : ((Str.ofString "moment" = Str.ofString "lines") ↔ False) := iff_false_intro (by decide)
@[simp] theorem sb2_moment_lines : (Str.ofString "moment" == Str.ofString "lines") = false := by decide
@[simp] theorem sn2_moment_happened : ((Str.ofString "moment" = Str.ofString "happened") ↔ False) := iff_false_intro (by decide)
@[simp] theorem sb2_moment_happened : (Str.ofString "moment" == Str.ofString "happened") = false := by decide
@[simp] theorem sn2_first_moment : ((Str.ofString "first" = Str.ofString "moment") ↔ False) := iff_false_intro (by decide)
@[simp] theorem sb2_first_moment : (Str.ofString "first" == Str.ofString "moment") = false := by decide
@[simp] theorem sn2_first_last : ((Str.ofString "first" = Str.ofString "last") ↔ False) := iff_false_intro (by decide)
@[simp] theorem sb2_first_last : (Str.ofString "first" == Str.ofString "last") = false := by decide
@[simp] theorem sn2_first_cut : ((Str.ofString "first" = Str.ofString "cut") ↔ False) := iff_false_intro (by decide)
@[simp] theorem sb2_first_cut : (Str.ofString "first" == Str.ofString "cut") = false := by decide
@[simp] theorem sn2_first_count : ((Str.ofString "first" = Str.ofString "count") ↔ False) := iff_false_intro (by decide)
@[simp] theorem sb2_first_count : (Str.ofString "first" == Str.ofString "count") = false := by decide
@[simp] theorem sn2_first_many : ((Str.ofString "first" = Str.ofString "many") ↔ False) := iff_false_intro (by decide)
@[simp] theorem sb2_first_many : (Str.ofString "first" == Str.ofString "many") = false := by decide
@[simp] theorem sn2_first_weights : ((Str.ofString "first" = Str.ofString "weights") ↔ False) := iff_false_intro (by decide)
@[simp] theorem sb2_first_weights : (Str.ofString "first" == Str.ofString "weights") = false := by decide
@[simp] theorem sn2_first_kind : ((Str.ofString "first" = Str.ofString "kind") ↔ False) := iff_false_intro (by decide)
@[simp] theorem sb2_first_kind : (Str.ofString "first" == Str.ofString "kind") = false := by decide
@[simp] theorem sn2_first_changes : ((Str.ofString "first" = Str.ofString "changes") ↔ False) := iff_false_intro (by decide)
@[simp] theorem sb2_first_changes : (Str.ofString "first" == Str.ofString "changes") = false := by decide
@[simp] theorem sn2_first_lines : ((Str.ofString "first" = Str.ofString "lines") ↔ False) := iff_false_intro (by decide)
@[simp] theorem sb2_first_lines : (Str.ofString "first" == Str.ofString "lines") = false := by decide
@[simp] theorem sn2_first_happened : ((Str.ofString "first" = Str.ofString "happened") ↔ False) := iff_false_intro (by decide)
@[simp] theorem sb2_first_happened : (Str.ofString "first" == Str.ofString "happened") = false := by decide
@[simp] theorem sn2_last_moment : ((Str.ofString "last" = Str.ofString "moment") ↔ False) := iff_false_intro (by decide)
@[simp] theorem sb2_last_moment : (Str.ofString "last" == Str.ofString "moment") = false := by decide
@[simp] theorem sn2_last_first : ((Str.ofString "last" = Str.ofString "first") ↔ False) := iff_false_intro (by decide)
@[simp] theorem sb2_last_first : (Str.ofString "last" == Str.ofString "first") = false := by decide
@[simp] theorem sn2_last_cut : ((Str.ofString "last" = Str.ofString "cut") ↔ False) := iff_false_intro (by decide)
@[simp] theorem sb2_last_cut : (Str.ofString "last" == Str.ofString "cut") = false := by decide
@[simp] theorem sn2_last_count : ((Str.ofString "last" = Str.ofString "count") ↔ False) := iff_false_intro (by decide)
@[simp] theorem sb2_last_count : (Str.ofString "last" == Str.ofString "count") = false := by decide
@[simp] theorem sn2_last_many : ((Str.ofString "last" = Str.ofString "many") ↔ False) := iff_false_intro (by decide)
@[simp] theorem sb2_last_many : (Str.ofString "last" == Str.ofString "many") = false := by decide
@[simp] theorem sn2_last_weights : ((Str.ofString "last" = Str.ofString "weights") ↔ False) := iff_false_intro (by decide)
@[simp] theorem sb2_last_weights : (Str.ofString "last" == Str.ofString "weights") = false := by decide
@[simp] theorem sn2_last_kind : ((Str.ofString "last" = Str.ofString "kind") ↔ False) := iff_false_intro (by decide)
@[simp] theorem sb2_last_kind : (Str.ofString "last" == Str.ofString "kind") = false := by decide
@[simp] theorem sn2_last_changes : ((Str.ofString "last" = Str.ofString "changes") ↔ False) := iff_false_intro (by decide)
@[simp] theorem sb2_last_changes : (Str.ofString "last" == Str.ofString "changes") = false := by decide
@[simp] theorem sn2_last_lines : ((Str.ofString "last" = Str.ofString "lines") ↔ False) := iff_false_intro (by decide)
@[simp] theorem sb2_last_lines : (Str.ofString "last" == Str.ofString "lines") = false := by decide
@[simp] theorem sn2_last_happened : ((Str.ofString "last" = Str.ofString "happened") ↔ False) := iff_false_intro (by decide)
@[simp] theorem sb2_last_happened : (Str.ofString "last" == Str.ofString "happened") = false := by decide
@[simp] theorem sn2_cut_moment : ((Str.ofString "cut" = Str.ofString "moment") ↔ False) := iff_false_intro (by decide)
@[simp] theorem sb2_cut_moment : (Str.ofString "cut" == Str.ofString "moment") = false := by decide
@[simp] theorem sn2_cut_first : ((Str.ofString "cut" = Str.ofString "first") ↔ False) := iff_false_intro (by decide)
@[simp] theorem sb2_cut_first : (Str.ofString "cut" == Str.ofString "first") = false := by decide
@[simp] theorem sn2_cut_last : ((Str.ofString "cut" = Str.ofString "last") ↔ False) := iff_false_intro (by decide)
@[simp] theorem sb2_cut_last : (Str.ofString "cut" == Str.ofString "last") = false := by decide
@[simp] theorem sn2_cut_count : ((Str.ofString "cut" = Str.ofString "count") ↔ False) := iff_false_intro (by decide)
@[simp] theorem sb2_cut_count : (Str.ofString "cut" == Str.ofString "count") = false := by decide
@[simp] theorem sn2_cut_many : ((Str.ofString "cut" = Str.ofString "many") ↔ False) := iff_false_intro (by decide)
@[simp] theorem sb2_cut_many : (Str.ofString "cut" == Str.ofString "many") = false := by decide
@[simp] theorem sn2_cut_weights : ((Str.ofString "cut" = Str.ofString "weights") ↔ False) := iff_false_intro (by decide)
@[simp] theorem sb2_cut_weights : (Str.ofString "cut" == Str.ofString "weights") = false := by decide
@[simp] theorem sn2_cut_kind : ((Str.ofString "cut" = Str.ofString "kind") ↔ False) := iff_false_intro (by decide)
@[simp] theorem sb2_cut_kind : (Str.ofString "cut" == Str.ofString "kind") = false := by decide
@[simp] theorem sn2_cut_changes : ((Str.ofString "cut" = Str.ofString "changes") ↔ False) := iff_false_intro (by decide)
@[simp] theorem sb2_cut_changes : (Str.ofString "cut" == Str.ofString "changes") = false := by decide
@[simp] theorem sn2_cut_lines : ((Str.ofString "cut" = Str.ofString "lines") ↔ False) := iff_false_intro (by decide)
@[simp] theorem sb2_cut_lines : (Str.ofString "cut" == Str.ofString "lines") = false := by decide
@[simp] theorem sn2_cut_happened : ((Str.ofString "cut" = Str.ofString "happened") ↔ False) := iff_false_intro (by decide)
@[simp] theorem sb2_cut_happened : (Str.ofString "cut" == Str.ofString "happened") = false := by decide
@[simp] theorem sn2_count_moment : ((Str.ofString "count" = Str.ofString "moment") ↔ False) := iff_false_intro (by decide)
@[simp] theorem sb2_count_moment : (Str.ofString "count" == Str.ofString "moment") = false := by decide
@[simp] theorem sn2_count_first : ((Str.ofString "count" = Str.ofString "first") ↔ False) := iff_false_intro (by decide)
@[simp] theorem sb2_count_first : (Str.ofString "count" == Str.ofString "first") = false := by decide
@[simp] theorem sn2_count_last : ((Str.ofString "count" = Str.ofString "last") ↔ False) := iff_false_intro (by decide)
@[simp] theorem sb2_count_last : (Str.ofString "count" == Str.ofString "last") = false := by decide
@[simp] theorem sn2_count_cut : ((Str.ofString "count" = Str.ofString "cut") ↔ False) := iff_false_intro (by decide)
@[simp] theorem sb2_count_cut : (Str.ofString "count" == Str.ofString "cut") = false := by decide
@[simp] theorem sn2_count_many : ((Str.ofString "count" = Str.ofString "many") ↔ False) := iff_false_intro (by decide)
@[simp] theorem sb2_count_many : (Str.ofString "count" == Str.ofString "many") = false := by decide
@[simp] theorem sn2_count_weights : ((Str.ofString "count" = Str.ofString "weights") ↔ False) := iff_false_intro (by decide)
@[simp] theorem sb2_count_weights : (Str.ofString "count" == Str.ofString "weights") = false := by decide
@[simp] theorem sn2_count_kind : ((Str.ofString "count" = Str.ofString "kind") ↔ False) := iff_false_intro (by decide)
@[simp] theorem sb2_count_kind : (Str.ofString "count" == Str.ofString "kind") = false := by decide
@[simp] theorem sn2_count_changes : ((Str.ofString "count" = Str.ofString "changes") ↔ False) := iff_false_intro (by decide)
@[simp] theorem sb2_count_changes : (Str.ofString "count" == Str.ofString "changes") = false := by decide
@[simp] theorem sn2_count_lines : ((Str.ofString "count" = Str.ofString "lines") ↔ False) := iff_false_intro (by decide)
@[simp] theorem sb2_count_lines : (Str.ofString "count" == Str.ofString "lines") = false := by decide
@[simp] theorem sn2_count_happened : ((Str.ofString "count" = Str.ofString "happened") ↔ False) := iff_false_intro (by decide)
@[simp] theorem sb2_count_happened : (Str.ofString "count" == Str.ofString "happened") = false := by decide
@[simp] theorem sn2_many_moment : ((Str.ofString "many" = Str.ofString "moment") ↔ False) := iff_false_intro (by decide)
@[simp] theorem sb2_many_moment : (Str.ofString "many" == Str.ofString "moment") = false := by decide
@[simp] theorem sn2_many_first : ((Str.ofString "many" = Str.ofString "first") ↔ False) := iff_false_intro (by decide)
@[simp] theorem sb2_many_first : (Str.ofString "many" == Str.ofString "first") = false := by decide
@[simp] theorem sn2_many_last : ((Str.ofString "many" = Str.ofString "last") ↔ False) := iff_false_intro (by decide)
@[simp] theorem sb2_many_last : (Str.ofString "many" == Str.ofString "last") = false := by decide
@[simp] theorem sn2_many_cut : ((Str.ofString "many" = Str.ofString "cut") ↔ False) := iff_false_intro (by decide)
@[simp] theorem sb2_many_cut : (Str.ofString "many" == Str.ofString "cut") = false := by decide
@[simp] theorem sn2_many_count : ((Str.ofString "many" = Str.ofString "count") ↔ False) := iff_false_intro (by decide)
@[simp] theorem sb2_many_count : (Str.ofString "many" == Str.ofString "count") = false := by decide
@[simp] theorem sn2_many_weights : ((Str.ofString "many" = Str.ofString "weights") ↔ False) := iff_false_intro (by decide)
@[simp] theorem sb2_many_weights : (Str.ofString "many" == Str.ofString "weights") = false := by decide
@[simp] theorem sn2_many_kind : ((Str.ofString "many" = Str.ofString "kind") ↔ False) := iff_false_intro (by decide)
@[simp] theorem sb2_many_kind : (Str.ofString "many" == Str.ofString "kind") = false := by decide
@[simp] theorem sn2_many_changes : ((Str.ofString "many" = Str.ofString "changes") ↔ False) := iff_false_intro (by decide)
@[simp] theorem sb2_many_changes : (Str.ofString "many" == Str.ofString "changes") = false := by decide
@[simp] theorem sn2_many_lines : ((Str.ofString "many" = Str.ofString "lines") ↔ False) := iff_false_intro (by decide)
@[simp] theorem sb2_many_lines : (Str.ofString "many" == Str.ofString "lines") = false := by decide
@[simp] theorem sn2_many_happened : ((Str.ofString "many" = Str.ofString "happened") ↔ False) := iff_false_intro (by decide)
@[simp] theorem sb2_many_happened : (Str.ofString "many" == Str.ofString "happened") = false := by decide
@[simp] theorem sn2_weights_moment : ((Str.ofString "weights" = Str.ofString "moment") ↔ False) := iff_false_intro (by decide)
@[simp] theorem sb2_weights_moment : (Str.ofString "weights" == Str.ofString "moment") = false := by decide
@[simp] theorem sn2_weights_first : ((Str.ofString "weights" = Str.ofString "first") ↔ False) := iff_false_intro (by decide)
@[simp] theorem sb2_weights_first : (Str.ofString "weights" == Str.ofString "first") = false := by decide
@[simp] theorem sn2_weights_last : ((Str.ofString "weights" = Str.ofString "last") ↔ False) := iff_false_intro (by decide)
@[simp] theorem sb2_weights_last : (Str.ofString "weights" == Str.ofString "last") = false := by decide
@[simp] theorem sn2_weights_cut : ((Str.ofString "weights" = Str.ofString "cut") ↔ False) := iff_false_intro (by decide)
@[simp] theorem sb2_weights_cut : (Str.ofString "weights" == Str.ofString "cut") = false := by decide
@[simp] theorem sn2_weights_count : ((Str.ofString "weights" = Str.ofString "count") ↔ False) := iff_false_intro (by decide)
@[simp] theorem sb2_weights_count : (Str.ofString "weights" == Str.ofString "count") = false := by decide
@[simp] theorem sn2_weights_many : ((Str.ofString "weights" = Str.ofString "many") ↔ False) := iff_false_intro (by decide)
@[simp] theorem sb2_weights_many : (Str.ofString "weights" == Str.ofString "many") = false := by decide
@[simp] theorem sn2_weights_kind : ((Str.ofString "weights" = Str.ofString "kind") ↔ False) := iff_false_intro (by decide)
@[simp] theorem sb2_weights_kind : (Str.ofString "weights" == Str.ofString "kind") = false := by decide
@[simp] theorem sn2_weights_changes : ((Str.ofString "weights" = Str.ofString "changes") ↔ False) := iff_false_intro (by decide)
@[simp] theorem sb2_weights_changes : (Str.ofString "weights" == Str.ofString "changes") = false := by decide
@[simp] theorem sn2_weights_lines : ((Str.ofString "weights" = Str.ofString "lines") ↔ False) := iff_false_intro (by decide)
@[simp] theorem sb2_weights_lines : (Str.ofString "weights" == Str.ofString "lines") = false := by decide
@[simp] theorem sn2_weights_happened : ((Str.ofString "weights" = Str.ofString "happened") ↔ False) := iff_false_intro (by decide)
@[simp] theorem sb2_weights_happened : (Str.ofString "weights" == Str.ofString "happened") = false := by decide
@[simp] theorem sn2_kind_moment : ((Str.ofString "kind" = Str.ofString "moment") ↔ False) := iff_false_intro (by decide)
@[simp] theorem sb2_kind_moment : (Str.ofString "kind" == Str.ofString "moment") = false := by decide
@[simp] theorem sn2_kind_first : ((Str.ofString "kind" = Str.ofString "first") ↔ False) := iff_false_intro (by decide)
@[simp] theorem sb2_kind_first : (Str.ofString "kind" == Str.ofString "first") = false := by decide
@[simp] theorem sn2_kind_last : ((Str.ofString "kind" = Str.ofString "last") ↔ False) := iff_false_intro (by decide)
@[simp] theorem sb2_kind_last : (Str.ofString "kind" == Str.ofString "last") = false := by decide
@[simp] theorem sn2_kind_cut : ((Str.ofString "kind" = Str.ofString "cut") ↔ False) := iff_false_intro (by decide)
@[simp] theorem sb2_kind_cut : (Str.ofString "kind" == Str.ofString "cut") = false := by decide
@[simp] theorem sn2_kind_count : ((Str.ofString "kind" = Str.ofString "count") ↔ False) := iff_false_intro (by decide)
@[simp] theorem sb2_kind_count : (Str.ofString "kind" == Str.ofString "count") = false := by decide
@[simp] theorem sn2_kind_many : ((Str.ofString "kind" = Str.ofString "many") ↔ False) := iff_false_intro (by decide)
@[simp] theorem sb2_kind_many : (Str.ofString "kind" == Str.ofString "many") = false := by decide
@[simp] theorem sn2_kind_weights : ((Str.ofString "kind" = Str.ofString "weights") ↔ False) := iff_false_intro (by decide)
@[simp] theorem sb2_kind_weights : (Str.ofString "kind" == Str.ofString "weights") = false := by decide
@[simp] theorem sn2_kind_changes : ((Str.ofString "kind" = Str.ofString "changes") ↔ False) := iff_false_intro (by decide)
@[simp] theorem sb2_kind_changes : (Str.ofString "kind" == Str.ofString "changes") = false := by decide
@[simp] theorem sn2_kind_lines : ((Str.ofString "kind" = Str.ofString "lines") ↔ False) := iff_false_intro (by decide)
@[simp] theorem sb2_kind_lines : (Str.ofString "kind" == Str.ofString "lines") = false := by decide
@[simp] theorem sn2_kind_happened : ((Str.ofString "kind" = Str.ofString "happened") ↔ False) := iff_false_intro (by decide)
@[simp] theorem sb2_kind_happened : (Str.ofString "kind" == Str.ofString "happened") = false := by decide
@[simp] theorem sn2_changes_moment : ((Str.ofString "changes" = Str.ofString "moment") ↔ False) := iff_false_intro (by decide)
@[simp] theorem sb2_changes_moment : (Str.ofString "changes" == Str.ofString "moment") = false := by decide
@[simp] theorem sn2_changes_first : ((Str.ofString "changes" = Str.ofString "first") ↔ False) := iff_false_intro (by decide)
@[simp] theorem sb2_changes_first : (Str.ofString "changes" == Str.ofString "first") = false := by decide
@[simp] theorem sn2_changes_last : ((Str.ofString "changes" = Str.ofString "last") ↔ False) := iff_false_intro (by decide)
@[simp] theorem sb2_changes_last : (Str.ofString "changes" == Str.ofString "last") = false := by decide
@[simp] theorem sn2_changes_cut : ((Str.ofString "changes" = Str.ofString "cut") ↔ False) := iff_false_intro (by decide)
@[simp] theorem sb2_changes_cut : (Str.ofString "changes" == Str.ofString "cut") = false := by decide
@[simp] theorem sn2_changes_count : ((Str.ofString "changes" = Str.ofString "count") ↔ False) := iff_false_intro (by decide)
@[simp] theorem sb2_changes_count : (Str.ofString "changes" == Str.ofString "count") = false := by decide
@[simp] theorem sn2_changes_many : ((Str.ofString "changes" = Str.ofString "many") ↔ False) := iff_false_intro (by decide)
@[simp] theorem sb2_changes_many : (Str.ofString "changes" == Str.ofString "many") = false := by decide
@[simp] theorem sn2_changes_weights : ((Str.ofString "changes" = Str.ofString "weights") ↔ False) := iff_false_intro (by decide)
@[simp] theorem sb2_changes_weights : (Str.ofString "changes" == Str.ofString "weights") = false := by decide
@[simp] theorem sn2_changes_kind : ((Str.ofString "changes" = Str.ofString "kind") ↔ False) := iff_false_intro (by decide)
@[simp] theorem sb2_changes_kind : (Str.ofString "changes" == Str.ofString "kind") = false := by decide
@[simp] theorem sn2_changes_lines : ((Str.ofString "changes" = Str.ofString "lines") ↔ False) := iff_false_intro (by decide)
@[simp] theorem sb2_changes_lines : (Str.ofString "changes" == Str.ofString "lines") = false := by decide
@[simp] theorem sn2_changes_happened : ((Str.ofString "changes" = Str.ofString "happened") ↔ False) := iff_false_intro (by decide)
@[simp] theorem sb2_changes_happened : (Str.ofString "changes" == Str.ofString "happened") = false := by decide
@[simp] theorem sn2_lines_moment : ((Str.ofString "lines" = Str.ofString "moment") ↔ False) := iff_false_intro (by decide)
@[simp] theorem sb2_lines_moment : (Str.ofString "lines" == Str.ofString "moment") = false := by decide
@[simp] theorem sn2_lines_first : ((Str.ofString "lines" = Str.ofString "first") ↔ False) := iff_false_intro (by decide)
@[simp] theorem sb2_lines_first : (Str.ofString "lines" == Str.ofString "first") = false := by decide
@[simp] theorem sn2_lines_last : ((Str.ofString "lines" = Str.ofString "last") ↔ False) := iff_false_intro (by decide)
@[simp] theorem sb2_lines_last : (Str.ofString "lines" == Str.ofString "last") = false := by decide
@[simp] theorem sn2_lines_cut : ((Str.ofString "lines" = Str.ofString "cut") ↔ False) := iff_false_intro (by decide)
@[simp] theorem sb2_lines_cut : (Str.ofString "lines" == Str.ofString "cut") = false := by decide
@[simp] theorem sn2_lines_count : ((Str.ofString "lines" = Str.ofString "count") ↔ False) := iff_false_intro (by decide)
@[simp] theorem sb2_lines_count : (Str.ofString "lines" == Str.ofString "count") = false := by decide
@[simp] theorem sn2_lines_many : ((Str.ofString "lines" = Str.ofString "many") ↔ False) := iff_false_intro (by decide)
@[simp] theorem sb2_lines_many : (Str.ofString "lines" == Str.ofString "many") = false := by decide
@[simp] theorem sn2_lines_weights : ((Str.ofString "lines" = Str.ofString "weights") ↔ False) := iff_false_intro (by decide)
@[simp] theorem sb2_lines_weights : (Str.ofString "lines" == Str.ofString "weights") = false := by decide
@[simp] theorem sn2_lines_kind : ((Str.ofString "lines" = Str.ofString "kind") ↔ False) := iff_false_intro (by decide)
@[simp] theorem sb2_lines_kind : (Str.ofString "lines" == Str.ofString "kind") = false := by decide
@[simp] theorem sn2_lines_changes : ((Str.ofString "lines" = Str.ofString "changes") ↔ False) := iff_false_intro (by decide)
@[simp] theorem sb2_lines_changes : (Str.ofString "lines" == Str.ofString "changes") = false := by decide
@[simp] theorem sn2_lines_happened : ((Str.ofString "lines" = Str.ofString "happened") ↔ False) := iff_false_intro (by decide)
@[simp] theorem sb2_lines_happened : (Str.ofString "lines" == Str.ofString "happened") = false := by decide
@[simp] theorem sn2_happened_moment : ((Str.ofString "happened" = Str.ofString "moment") ↔ False) := iff_false_intro (by decide)
@[simp] theorem sb2_happened_moment : (Str.ofString "happened" == Str.ofString "moment") = false := by decide
@[simp] theorem sn2_happened_first : ((Str.ofString "happened" = Str.ofString "first") ↔ False) := iff_false_intro (by decide)
@[simp] theorem sb2_happened_first : (Str.ofString "happened" == Str.ofString "first") = false := by decide
@[simp] theorem sn2_happened_last : ((Str.ofString "happened" = Str.ofString "last") ↔ False) := iff_false_intro (by decide)
@[simp] theorem sb2_happened_last : (Str.ofString "happened" == Str.ofString "last") = false := by decide
@[simp] theorem sn2_happened_cut : ((Str.ofString "happened" = Str.ofString "cut") ↔ False) := iff_false_intro (by decide)
@[simp] theorem sb2_happened_cut : (Str.ofString "happened" == Str.ofString "cut") = false := by decide
@[simp] theorem sn2_happened_count : ((Str.ofString "happened" = Str.ofString "count") ↔ False) := iff_false_intro (by decide)
@[simp] theorem sb2_happened_count : (Str.ofString "happened" == Str.ofString "count") = false := by decide
@[simp] theorem sn2_happened_many : ((Str.ofString "happened" = Str.ofString "many") ↔ False) := iff_false_intro (by decide)
@[simp] theorem sb2_happened_many : (Str.ofString "happened" == Str.ofString "many") = false := by decide
@[simp] theorem sn2_happened_weights : ((Str.ofString "happened" = Str.ofString "weights") ↔ False) := iff_false_intro (by decide)
@[simp] theorem sb2_happened_weights : (Str.ofString "happened" == Str.ofString "weights") = false := by decide
@[simp] theorem sn2_happened_kind : ((Str.ofString "happened" = Str.ofString "kind") ↔ False) := iff_false_intro (by decide)
@[simp] theorem sb2_happened_kind : (Str.ofString "happened" == Str.ofString "kind") = false := by decide
@[simp] theorem sn2_happened_changes : ((Str.ofString "happened" = Str.ofString "changes") ↔ False) := iff_false_intro (by decide)
@[simp] theorem sb2_happened_changes : (Str.ofString "happened" == Str.ofString "changes") = false := by decide
@[simp] theorem sn2_happened_lines : ((Str.ofString "happened" = Str.ofString "lines") ↔ False) := iff_false_intro (by decide)
@[simp] theorem sb2_happened_lines : (Str.ofString "happened" == Str.ofString "lines") = false := by decide
@[simp] theorem sn2_shows_moment : ((Str.ofString "shows" = Str.ofString "moment") ↔ False) := iff_false_intro (by decide)
@[simp] theorem sb2_shows_moment : (Str.ofString "shows" == Str.ofString "moment") = false := by decide
@[simp] theorem sn2_shows_first : ((Str.ofString "shows" = Str.ofString "first") ↔ False) := iff_false_intro (by decide)
@[simp] theorem sb2_shows_first : (Str.ofString "shows" == Str.ofString "first") = false := by decide
@[simp] theorem sn2_shows_last : ((Str.ofString "shows" = Str.ofString "last") ↔ False) := iff_false_intro (by decide)
@[simp] theorem sb2_shows_last : (Str.ofString "shows" == Str.ofString "last") = false := by decide
@[simp] theorem sn2_shows_cut : ((Str.ofString "shows" = Str.ofString "cut") ↔ False) := iff_false_intro (by decide)
@[simp] theorem sb2_shows_cut : (Str.ofString "shows" == Str.ofString "cut") = false := by decide
@[simp] theorem sn2_shows_count : ((Str.ofString "shows" = Str.ofString "count") ↔ False) := iff_false_intro (by decide)
@[simp] theorem sb2_shows_count : (Str.ofString "shows" == Str.ofString "count") = false := by decide
@[simp] theorem sn2_shows_many : ((Str.ofString "shows" = Str.ofString "many") ↔ False) := iff_false_intro (by decide)
@[simp] theorem sb2_shows_many : (Str.ofString "shows" == Str.ofString "many") = false := by decide
@[simp] theorem sn2_shows_weights : ((Str.ofString "shows" = Str.ofString "weights") ↔ False) := iff_false_intro (by decide)
@[simp] theorem sb2_shows_weights : (Str.ofString "shows" == Str.ofString "weights") = false := by decide
@[simp] theorem sn2_shows_kind : ((Str.ofString "shows" = Str.ofString "kind") ↔ False) := iff_false_intro (by decide)
@[simp] theorem sb2_shows_kind : (Str.ofString "shows" == Str.ofString "kind") = false := by decide
@[simp] theorem sn2_shows_changes : ((Str.ofString "shows" = Str.ofString "changes") ↔ False) := iff_false_intro (by decide)
@[simp] theorem sb2_shows_changes : (Str.ofString "shows" == Str.ofString "changes") = false := by decide
@[simp] theorem sn2_shows_lines : ((Str.ofString "shows" = Str.ofString "lines") ↔ False) := iff_false_intro (by decide)
@[simp] theorem sb2_shows_lines : (Str.ofString "shows" == Str.ofString "lines") = false := by decide
@[simp] theorem sn2_shows_happened : ((Str.ofString "shows" = Str.ofString "happened") ↔ False) := iff_false_intro (by decide)
@[simp] theorem sb2_shows_happened : (Str.ofString "shows" == Str.ofString "happened") = false := by decide
@[simp] theorem sn2_coming_moment : ((Str.ofString "coming" = Str.ofString "moment") ↔ False) := iff_false_intro (by decide)
@[simp] theorem sb2_coming_moment : (Str.ofString "coming" == Str.ofString "moment") = false := by decide
@[simp] theorem sn2_coming_first : ((Str.ofString "coming" = Str.ofString "first") ↔ False) := iff_false_intro (by decide)
@[simp] theorem sb2_coming_first : (Str.ofString "coming" == Str.ofString "first") = false := by decide
@[simp] theorem sn2_coming_last : ((Str.ofString "coming" = Str.ofString "last") ↔ False) := iff_false_intro (by decide)
@[simp] theorem sb2_coming_last : (Str.ofString "coming" == Str.ofString "last") = false := by decide
@[simp] theorem sn2_coming_cut : ((Str.ofString "coming" = Str.ofString "cut") ↔ False) := iff_false_intro (by decide)
@[simp] theorem sb2_coming_cut : (Str.ofString "coming" == Str.ofString "cut") = false := by decide
@[simp] theorem sn2_coming_count : ((Str.ofString "coming" = Str.ofString "count") ↔ False) := iff_false_intro (by decide)
@[simp] theorem sb2_coming_count : (Str.ofString "coming" == Str.ofString "count") = false := by decide
@[simp] theorem sn2_coming_many : ((Str.ofString "coming" = Str.ofString "many") ↔ False) := iff_false_intro (by decide)
@[simp] theorem sb2_coming_many : (Str.ofString "coming" == Str.ofString "many") = false := by decide
@[simp] theorem sn2_coming_weights : ((Str.ofString "coming" = Str.ofString "weights") ↔ False) := iff_false_intro (by decide)
@[simp] theorem sb2_coming_weights : (Str.ofString "coming" == Str.ofString "weights") = false := by decide
@[simp] theorem sn2_coming_kind : ((Str.ofString "coming" = Str.ofString "kind") ↔ False) := iff_false_intro (by decide)
@[simp] theorem sb2_coming_kind : (Str.ofString "coming" == Str.ofString "kind") = false := by decide
@[simp] theorem sn2_coming_changes : ((Str.ofString "coming" = Str.ofString "changes") ↔ False) := iff_false_intro (by decide)
@[simp] theorem sb2_coming_changes : (Str.ofString "coming" == Str.ofString "changes") = false := by decide
@[simp] theorem sn2_coming_lines : ((Str.ofString "coming" = Str.ofString "lines") ↔ False) := iff_false_intro (by decide)
@[simp] theorem sb2_coming_lines : (Str.ofString "coming" == Str.ofString "lines") = false := by decide
@[simp] theorem sn2_coming_happened : ((Str.ofString "coming" = Str.ofString "happened") ↔ False) := iff_false_intro (by decide)
@[simp] theorem sb2_coming_happened : (Str.ofString "coming" == Str.ofString "happened") = false := by decide
@[simp] theorem sn2_go_on_moment : ((Str.ofString "go_on" = Str.ofString "moment") ↔ False) := iff_false_intro (by decide)
@[simp] theorem sb2_go_on_moment : (Str.ofString "go_on" == Str.ofString "moment") = false := by decide
@[simp] theorem sn2_go_on_first : ((Str.ofString "go_on" = Str.ofString "first") ↔ False) := iff_false_intro (by decide)
@[simp] theorem sb2_go_on_first : (Str.ofString "go_on" == Str.ofString "first") = false := by decide
@[simp] theorem sn2_go_on_last : ((Str.ofString "go_on" = Str.ofString "last") ↔ False) := iff_false_intro (by decide)
@[simp] theorem sb2_go_on_last : (Str.ofString "go_on" == Str.ofString "last") = false := by decide
@[simp] theorem sn2_go_on_cut : ((Str.ofString "go_on" = Str.ofString "cut") ↔ False) := iff_false_intro (by decide)
@[simp] theorem sb2_go_on_cut : (Str.ofString "go_on" == Str.ofString "cut") = false := by decide
@[simp] theorem sn2_go_on_count : ((Str.ofString "go_on" = Str.ofString "count") ↔ False) := iff_false_intro (by decide)
@[simp] theorem sb2_go_on_count : (Str.ofString "go_on" == Str.ofString "count") = false := by decide
@[simp] theorem sn2_go_on_many : ((Str.ofString "go_on" = Str.ofString "many") ↔ False) := iff_false_intro (by decide)
@[simp] theorem sb2_go_on_many : (Str.ofString "go_on" == Str.ofString "many") = false := by decide
@[simp] theorem sn2_go_on_weights : ((Str.ofString "go_on" = Str.ofString "weights") ↔ False) := iff_false_intro (by decide)
@[simp] theorem sb2_go_on_weights : (Str.ofString "go_on" == Str.ofString "weights") = false := by decide
@[simp] theorem sn2_go_on_kind : ((Str.ofString "go_on" = Str.ofString "kind") ↔ False) := iff_false_intro (by decide)
@[simp] theorem sb2_go_on_kind : (Str.ofString "go_on" == Str.ofString "kind") = false := by decide
@[simp] theorem sn2_go_on_changes : ((Str.ofString "go_on" = Str.ofString "changes") ↔ False) := iff_false_intro (by decide)
@[simp] theorem sb2_go_on_changes : (Str.ofString "go_on" == Str.ofString "changes") = false := by decide
@[simp] theorem sn2_go_on_lines : ((Str.ofString "go_on" = Str.ofString "lines") ↔ False) := iff_false_intro (by decide)
@[simp] theorem sb2_go_on_lines : (Str.ofString "go_on" == Str.ofString "lines") = false := by decide
@[simp] theorem sn2_go_on_happened : ((Str.ofString "go_on" = Str.ofString "happened") ↔ False) := iff_false_intro (by decide)
@[simp] theorem sb2_go_on_happened : (Str.ofString "go_on" == Str.ofString "happened") = false := by decide
@[simp] theorem sn2_go_to_moment : ((Str.ofString "go_to" = Str.ofString "moment") ↔ False) := iff_false_intro (by decide)
@[simp] theorem sb2_go_to_moment : (Str.ofString "go_to" == Str.ofString "moment") = false := by decide
@[simp] theorem sn2_go_to_first : ((Str.ofString "go_to" = Str.ofString "first") ↔ False) := iff_false_intro (by decide)
@[simp] theorem sb2_go_to_first : (Str.ofString "go_to" == Str.ofString "first") = false := by decide
@[simp] theorem sn2_go_to_last : ((Str.ofString "go_to" = Str.ofString "last") ↔ False) := iff_false_intro (by decide)
@[simp] theorem sb2_go_to_last : (Str.ofString "go_to" == Str.ofString "last") = false := by decide
@[simp] theorem sn2_go_to_cut : ((Str.ofString "go_to" = Str.ofString "cut") ↔ False) := iff_false_intro (by decide)
@[simp] theorem sb2_go_to_cut : (Str.ofString "go_to" == Str.ofString "cut") = false := by decide
@[simp] theorem sn2_go_to_count : ((Str.ofString "go_to" = Str.ofString "count") ↔ False) := iff_false_intro (by decide)
@[simp] theorem sb2_go_to_count : (Str.ofString "go_to" == Str.ofString "count") = false := by decide
@[simp] theorem sn2_go_to_many : ((Str.ofString "go_to" = Str.ofString "many") ↔ False) := iff_false_intro (by decide)
@[simp] theorem sb2_go_to_many : (Str.ofString "go_to" == Str.ofString "many") = false := by decide
@[simp] theorem sn2_go_to_weights : ((Str.ofString "go_to" = Str.ofString "weights") ↔ False) := iff_false_intro (by decide)
@[simp] theorem sb2_go_to_weights : (Str.ofString "go_to" == Str.ofString "weights") = false := by decide
@[simp] theorem sn2_go_to_kind : ((Str.ofString "go_to" = Str.ofString "kind") ↔ False) := iff_false_intro (by decide)
@[simp] theorem sb2_go_to_kind : (Str.ofString "go_to" == Str.ofString "kind") = false := by decide
@[simp] theorem sn2_go_to_changes : ((Str.ofString "go_to" = Str.ofString "changes") ↔ False) := iff_false_intro (by decide)
@[simp] theorem sb2_go_to_changes : (Str.ofString "go_to" == Str.ofString "changes") = false := by decide
@[simp] theorem sn2_go_to_lines : ((Str.ofString "go_to" = Str.ofString "lines") ↔ False) := iff_false_intro (by decide)
@[simp] theorem sb2_go_to_lines : (Str.ofString "go_to" == Str.ofString "lines") = false := by decide
@[simp] theorem sn2_go_to_happened : ((Str.ofString "go_to" = Str.ofString "happened") ↔ False) := iff_false_intro (by decide)
@[simp] theorem sb2_go_to_happened : (Str.ofString "go_to" == Str.ofString "happened") = false := by decide
@[simp] theorem sn2_run_to_moment : ((Str.ofString "run_to" = Str.ofString "moment") ↔ False) := iff_false_intro (by decide)
@[simp] theorem sb2_run_to_moment : (Str.ofString "run_to" == Str.ofString "moment") = false := by decide
@[simp] theorem sn2_run_to_first : ((Str.ofString "run_to" = Str.ofString "first") ↔ False) := iff_false_intro (by decide)
@[simp] theorem sb2_run_to_first : (Str.ofString "run_to" == Str.ofString "first") = false := by decide
@[simp] theorem sn2_run_to_last : ((Str.ofString "run_to" = Str.ofString "last") ↔ False) := iff_false_intro (by decide)
@[simp] theorem sb2_run_to_last : (Str.ofString "run_to" == Str.ofString "last") = false := by decide
@[simp] theorem sn2_run_to_cut : ((Str.ofString "run_to" = Str.ofString "cut") ↔ False) := iff_false_intro (by decide)
@[simp] theorem sb2_run_to_cut : (Str.ofString "run_to" == Str.ofString "cut") = false := by decide
@[simp] theorem sn2_run_to_count : ((Str.ofString "run_to" = Str.ofString "count") ↔ False) := iff_false_intro (by decide)
@[simp] theorem sb2_run_to_count : (Str.ofString "run_to" == Str.ofString "count") = false := by decide
@[simp] theorem sn2_run_to_many : ((Str.ofString "run_to" = Str.ofString "many") ↔ False) := iff_false_intro (by decide)
@[simp] theorem sb2_run_to_many : (Str.ofString "run_to" == Str.ofString "many") = false := by decide
@[simp] theorem sn2_run_to_weights : ((Str.ofString "run_to" = Str.ofString "weights") ↔ False) := iff_false_intro (by decide)
@[simp] theorem sb2_run_to_weights : (Str.ofString "run_to" == Str.ofString "weights") = false := by decide
@[simp] theorem sn2_run_to_kind : ((Str.ofString "run_to" = Str.ofString "kind") ↔ False) := iff_false_intro (by decide)
@[simp] theorem sb2_run_to_kind : (Str.ofString "run_to" == Str.ofString "kind") = false := by decide
@[simp] theorem sn2_run_to_changes : ((Str.ofString "run_to" = Str.ofString "changes") ↔ False) := iff_false_intro (by decide)
@[simp] theorem sb2_run_to_changes : (Str.ofString "run_to" == Str.ofString "changes") = false := by decide
@[simp] theorem sn2_run_to_lines : ((Str.ofString "run_to" = Str.ofString "lines") ↔ False) := iff_false_intro (by decide)
@[simp] theorem sb2_run_to_lines : (Str.ofString "run_to" == Str.ofString "lines") = false := by decide
@[simp] theorem sn2_run_to_happened : ((Str.ofString "run_to" = Str.ofString "happened") ↔ False) := iff_false_intro (by decide)
@[simp] theorem sb2_run_to_happened : (Str.ofString "run_to" == Str.ofString "happened") = false := by decide
@[simp] theorem sn2_now_moment : ((Str.ofString "now" = Str.ofString "moment") ↔ False) := iff_false_intro (by decide)
@[simp] theorem sb2_now_moment : (Str.ofString "now" == Str.ofString "moment") = false := by decide
@[simp] theorem sn2_now_first : ((Str.ofString "now" = Str.ofString "first") ↔ False) := iff_false_intro (by decide)
@[simp] theorem sb2_now_first : (Str.ofString "now" == Str.ofString "first") = false := by decide
@[simp] theorem sn2_now_last : ((Str.ofString "now" = Str.ofString "last") ↔ False) := iff_false_intro (by decide)
@[simp] theorem sb2_now_last : (Str.ofString "now" == Str.ofString "last") = false := by decide
@[simp] theorem sn2_now_cut : ((Str.ofString "now" = Str.ofString "cut") ↔ False) := iff_false_intro (by decide)
@[simp] theorem sb2_now_cut : (Str.ofString "now" == Str.ofString "cut") = false := by decide
@[simp] theorem sn2_now_count : ((Str.ofString "now" = Str.ofString "count") ↔ False) := iff_false_intro (by decide)
@[simp] theorem sb2_now_count : (Str.ofString "now" == Str.ofString "count") = false := by decide
@[simp] theorem sn2_now_many : ((Str.ofString "now" = Str.ofString "many") ↔ False) := iff_false_intro (by decide)
@[simp] theorem sb2_now_many : (Str.ofString "now" == Str.ofString "many") = false := by decide
@[simp] theorem sn2_now_weights : ((Str.ofString "now" = Str.ofString "weights") ↔ False) := iff_false_intro (by decide)
@[simp] theorem sb2_now_weights : (Str.ofString "now" == Str.ofString "weights") = false := by decide
@[simp] theorem sn2_now_kind : ((Str.ofString "now" = Str.ofString "kind") ↔ False) := iff_false_intro (by decide)
@[simp] theorem sb2_now_kind : (Str.ofString "now" == Str.ofString "kind") = false := by decide
@[simp] theorem sn2_now_changes : ((Str.ofString "now" = Str.ofString "changes") ↔ False) := iff_false_intro (by decide)
@[simp] theorem sb2_now_changes : (Str.ofString "now" == Str.ofString "changes") = false := by decide
@[simp] theorem sn2_now_lines : ((Str.ofString "now" = Str.ofString "lines") ↔ False) := iff_false_intro (by decide)
@[simp] theorem sb2_now_lines : (Str.ofString "now" == Str.ofString "lines") = false := by decide
@[simp] theorem sn2_now_happened : ((Str.ofString "now" = Str.ofString "happened") ↔ False) := iff_false_intro (by decide)
@[simp] theorem sb2_now_happened : (Str.ofString "now" == Str.ofString "happened") = false := by decide
@[simp] theorem sn2_events_moment : ((Str.ofString "events" = Str.ofString "moment") ↔ False) := iff_false_intro (by decide)
@[simp] theorem sb2_events_moment : (Str.ofString "events" == Str.ofString "moment") = false := by decide
@[simp] theorem sn2_events_first : ((Str.ofString "events" = Str.ofString "first") ↔ False) := iff_false_intro (by decide)
@[simp] theorem sb2_events_first : (Str.ofString "events" == Str.ofString "first") = false := by decide
@[simp] theorem sn2_events_last : ((Str.ofString "events" = Str.ofString "last") ↔ False) := iff_false_intro (by decide)
@[simp] theorem sb2_events_last : (Str.ofString "events" == Str.ofString "last") = false := by decide
@[simp] theorem sn2_events_cut : ((Str.ofString "events" = Str.ofString "cut") ↔ False) := iff_false_intro (by decide)
@[simp] theorem sb2_events_cut : (Str.ofString "events" == Str.ofString "cut") = false := by decide
@[simp] theorem sn2_events_count : ((Str.ofString "events" = Str.ofString "count") ↔ False) := iff_false_intro (by decide)
@[simp] theorem sb2_events_count : (Str.ofString "events" == Str.ofString "count") = false := by decide
@[simp] theorem sn2_events_many : ((Str.ofString "events" = Str.ofString "many") ↔ False) := iff_false_intro (by decide)
@[simp] theorem sb2_events_many : (Str.ofString "events" == Str.ofString "many") = false := by decide
@[simp] theorem sn2_events_weights : ((Str.ofString "events" = Str.ofString "weights") ↔ False) := iff_false_intro (by decide)
@[simp] theorem sb2_events_weights : (Str.ofString "events" == Str.ofString "weights") = false := by decide
@[simp] theorem sn2_events_kind : ((Str.ofString "events" = Str.ofString "kind") ↔ False) := iff_false_intro (by decide)
@[simp] theorem sb2_events_kind : (Str.ofString "events" == Str.ofString "kind") = false := by decide
@[simp] theorem sn2_events_changes : ((Str.ofString "events" = Str.ofString "changes") ↔ False) := iff_false_intro (by decide)
@[simp] theorem sb2_events_changes : (Str.ofString "events" == Str.ofString "changes") = false := by decide
@[simp] theorem sn2_events_lines : ((Str.ofString "events" = Str.ofString "lines") ↔ False) := iff_false_intro (by decide)
@[simp] theorem sb2_events_lines : (Str.ofString "events" == Str.ofString "lines") = false := by decide
@[simp] theorem sn2_events_happened : ((Str.ofString "events" = Str.ofString "happened") ↔ False) := iff_false_intro (by decide)
@[simp] theorem sb2_events_happened : (Str.ofString "events" == Str.ofString "happened") = false := by decide
@[simp] theorem sn2_change_ahead_moment : ((Str.ofString "change_ahead" = Str.ofString "moment") ↔ False) := iff_false_intro (by decide)
@[simp] theorem sb2_change_ahead_moment : (Str.ofString "change_ahead" == Str.ofString "moment") = false := by decide
@[simp] theorem sn2_change_ahead_first : ((Str.ofString "change_ahead" = Str.ofString "first") ↔ False) := iff_false_intro (by decide)
@[simp] theorem sb2_change_ahead_first : (Str.ofString "change_ahead" == Str.ofString "first") = false := by decide
@[simp] theorem sn2_change_ahead_last : ((Str.ofString "change_ahead" = Str.ofString "last") ↔ False) := iff_false_intro (by decide)
@[simp] theorem sb2_change_ahead_last : (Str.ofString "change_ahead" == Str.ofString "last") = false := by decide
@[simp] theorem sn2_change_ahead_cut : ((Str.ofString "change_ahead" = Str.ofString "cut") ↔ False) := iff_false_intro (by decide)
@[simp] theorem sb2_change_ahead_cut : (Str.ofString "change_ahead" == Str.ofString "cut") = false := by decide
@[simp] theorem sn2_change_ahead_count : ((Str.ofString "change_ahead" = Str.ofString "count") ↔ False) := iff_false_intro (by decide)
@[simp] theorem sb2_change_ahead_count : (Str.ofString "change_ahead" == Str.ofString "count") = false := by decide
@[simp] theorem sn2_change_ahead_many : ((Str.ofString "change_ahead" = Str.ofString "many") ↔ False) := iff_false_intro (by decide)
@[simp] theorem sb2_change_ahead_many : (Str.ofString "change_ahead" == Str.ofString "many") = false := by decide
@[simp] theorem sn2_change_ahead_weights : ((Str.ofString "change_ahead" = Str.ofString "weights") ↔ False) := iff_false_intro (by decide)
@[simp] theorem sb2_change_ahead_weights : (Str.ofString "change_ahead" == Str.ofString "weights") = false := by decide
@[simp] theorem sn2_change_ahead_kind : ((Str.ofString "change_ahead" = Str.ofString "kind") ↔ False) := iff_false_intro (by decide)
@[simp] theorem sb2_change_ahead_kind : (Str.ofString "change_ahead" == Str.ofString "kind") = false := by decide
@[simp] theorem sn2_change_ahead_changes : ((Str.ofString "change_ahead" = Str.ofString "changes") ↔ False) := iff_false_intro (by decide)
@[simp] theorem sb2_change_ahead_changes : (Str.ofString "change_ahead" == Str.ofString "changes") = false := by decide
@[simp] theorem sn2_change_ahead_lines : ((Str.ofString "change_ahead" = Str.ofString "lines") ↔ False) := iff_false_intro (by decide)
@[simp] theorem sb2_change_ahead_lines : (Str.ofString "change_ahead" == Str.ofString "lines") = false := by decide
@[simp] theorem sn2_change_ahead_happened : ((Str.ofString "change_ahead" = Str.ofString "happened") ↔ False) := iff_false_intro (by decide)
@[simp] theorem sb2_change_ahead_happened : (Str.ofString "change_ahead" == Str.ofString "happened") = false := by decide
@[simp] theorem sn2_next_moment : ((Str.ofString "next" = Str.ofString "moment") ↔ False) := iff_false_intro (by decide)
@[simp] theorem sb2_next_moment : (Str.ofString "next" == Str.ofString "moment") = false := by decide
@[simp] theorem sn2_next_first : ((Str.ofString "next" = Str.ofString "first") ↔ False) := iff_false_intro (by decide)
@[simp] theorem sb2_next_first : (Str.ofString "next" == Str.ofString "first") = false := by decide
@[simp] theorem sn2_next_last : ((Str.ofString "next" = Str.ofString "last") ↔ False) := iff_false_intro (by decide)
@[simp] theorem sb2_next_last : (Str.ofString "next" == Str.ofString "last") = false := by decide
@[simp] theorem sn2_next_cut : ((Str.ofString "next" = Str.ofString "cut") ↔ False) := iff_false_intro (by decide)
@[simp] theorem sb2_next_cut : (Str.ofString "next" == Str.ofString "cut") = false := by decide
@[simp] theorem sn2_next_count : ((Str.ofString "next" = Str.ofString "count") ↔ False) := iff_false_intro (by decide)
@[simp] theorem sb2_next_count : (Str.ofString "next" == Str.ofString "count") = false := by decide
@[simp] theorem sn2_next_many : ((Str.ofString "next" = Str.ofString "many") ↔ False) := iff_false_intro (by decide)
@[simp] theorem sb2_next_many : (Str.ofString "next" == Str.ofString "many") = false := by decide
@[simp] theorem sn2_next_weights : ((Str.ofString "next" = Str.ofString "weights") ↔ False) := iff_false_intro (by decide)
@[simp] theorem sb2_next_weights : (Str.ofString "next" == Str.ofString "weights") = false := by decide
@[simp] theorem sn2_next_kind : ((Str.ofString "next" = Str.ofString "kind") ↔ False) := iff_false_intro (by decide)
@[simp] theorem sb2_next_kind : (Str.ofString "next" == Str.ofString "kind") = false := by decide
@[simp] theorem sn2_next_changes : ((Str.ofString "next" = Str.ofString "changes") ↔ False) := iff_false_intro (by decide)
@[simp] theorem sb2_next_changes : (Str.ofString "next" == Str.ofString "changes") = false := by decide
@[simp] theorem sn2_next_lines : ((Str.ofString "next" = Str.ofString "lines") ↔ False) := iff_false_intro (by decide)
@[simp] theorem sb2_next_lines : (Str.ofString "next" == Str.ofString "lines") = false := by decide
@[simp] theorem sn2_next_happened : ((Str.ofString "next" = Str.ofString "happened") ↔ False) := iff_false_intro (by decide)
@[simp] theorem sb2_next_happened : (Str.ofString "next" == Str.ofString "happened") = false := by decide
@[simp] theorem sn2_back_moment : ((Str.ofString "back" = Str.ofString "moment") ↔ False) := iff_false_intro (by decide)
@[simp] theorem sb2_back_moment : (Str.ofString "back" == Str.ofString "moment") = false := by decide
@[simp] theorem sn2_back_first : ((Str.ofString "back" = Str.ofString "first") ↔ False) := iff_false_intro (by decide)
@[simp] theorem sb2_back_first : (Str.ofString "back" == Str.ofString "first") = false := by decide
@[simp] theorem sn2_back_last : ((Str.ofString "back" = Str.ofString "last") ↔ False) := iff_false_intro (by decide)
@[simp] theorem sb2_back_last : (Str.ofString "back" == Str.ofString "last") = false := by decide
@[simp] theorem sn2_back_cut : ((Str.ofString "back" = Str.ofString "cut") ↔ False) := iff_false_intro (by decide)
@[simp] theorem sb2_back_cut : (Str.ofString "back" == Str.ofString "cut") = false := by decide
@[simp] theorem sn2_back_count : ((Str.ofString "back" = Str.ofString "count") ↔ False) := iff_false_intro (by decide)
@[simp] theorem sb2_back_count : (Str.ofString "back" == Str.ofString "count") = false := by decide
@[simp] theorem sn2_back_many : ((Str.ofString "back" = Str.ofString "many") ↔ False) := iff_false_intro (by decide)
@[simp] theorem sb2_back_many : (Str.ofString "back" == Str.ofString "many") = false := by decide
@[simp] theorem sn2_back_weights : ((Str.ofString "back" = Str.ofString "weights") ↔ False) := iff_false_intro (by decide)
@[simp] theorem sb2_back_weights : (Str.ofString "back" == Str.ofString "weights") = false := by decide
@[simp] theorem sn2_back_kind : ((Str.ofString "back" = Str.ofString "kind") ↔ False) := iff_false_intro (by decide)
@[simp] theorem sb2_back_kind : (Str.ofString "back" == Str.ofString "kind") = false := by decide
@[simp] theorem sn2_back_changes : ((Str.ofString "back" = Str.ofString "changes") ↔ False) := iff_false_intro (by decide)
@[simp] theorem sb2_back_changes : (Str.ofString "back" == Str.ofString "changes") = false := by decide
@[simp] theorem sn2_back_lines : ((Str.ofString "back" = Str.ofString "lines") ↔ False) := iff_false_intro (by decide)
@[simp] theorem sb2_back_lines : (Str.ofString "back" == Str.ofString "lines") = false := by decide
@[simp] theorem sn2_back_happened : ((Str.ofString "back" = Str.ofString "happened") ↔ False) := iff_false_intro (by decide)
@[simp] theorem sb2_back_happened : (Str.ofString "back" == Str.ofString "happened") = false := by decide
@[simp] theorem sn2_to_moment : ((Str.ofString "to" = Str.ofString "moment") ↔ False) := iff_false_intro (by decide)
@[simp] theorem sb2_to_moment : (Str.ofString "to" == Str.ofString "moment") = false := by decide
@[simp] theorem sn2_to_first : ((Str.ofString "to" = Str.ofString "first") ↔ False) := iff_false_intro (by decide)
@[simp] theorem sb2_to_first : (Str.ofString "to" == Str.ofString "first") = false := by decide
@[simp] theorem sn2_to_last : ((Str.ofString "to" = Str.ofString "last") ↔ False) := iff_false_intro (by decide)
@[simp] theorem sb2_to_last : (Str.ofString "to" == Str.ofString "last") = false := by decide
@[simp] theorem sn2_to_cut : ((Str.ofString "to" = Str.ofString "cut") ↔ False) := iff_false_intro (by decide)
@[simp] theorem sb2_to_cut : (Str.ofString "to" == Str.ofString "cut") = false := by decide
@[simp] theorem sn2_to_count : ((Str.ofString "to" = Str.ofString "count") ↔ False) := iff_false_intro (by decide)
@[simp] theorem sb2_to_count : (Str.ofString "to" == Str.ofString "count") = false := by decide
@[simp] theorem sn2_to_many : ((Str.ofString "to" = Str.ofString "many") ↔ False) := iff_false_intro (by decide)
@[simp] theorem sb2_to_many : (Str.ofString "to" == Str.ofString "many") = false := by decide
@[simp] theorem sn2_to_weights : ((Str.ofString "to" = Str.ofString "weights") ↔ False) := iff_false_intro (by decide)
@[simp] theorem sb2_to_weights : (Str.ofString "to" == Str.ofString "weights") = false := by decide
@[simp] theorem sn2_to_kind : ((Str.ofString "to" = Str.ofString "kind") ↔ False) := iff_false_intro (by decide)
@[simp] theorem sb2_to_kind : (Str.ofString "to" == Str.ofString "kind") = false := by decide
@[simp] theorem sn2_to_changes : ((Str.ofString "to" = Str.ofString "changes") ↔ False) := iff_false_intro (by decide)
@[simp] theorem sb2_to_changes : (Str.ofString "to" == Str.ofString "changes") = false := by decide
@[simp] theorem sn2_to_lines : ((Str.ofString "to" = Str.ofString "lines") ↔ False) := iff_false_intro (by decide)
@[simp] theorem sb2_to_lines : (Str.ofString "to" == Str.ofString "lines") = false := by decide
@[simp] theorem sn2_to_happened : ((Str.ofString "to" = Str.ofString "happened") ↔ False) := iff_false_intro (by decide)
@[simp] theorem sb2_to_happened : (Str.ofString "to" == Str.ofString "happened") = false := by decide
@[simp] theorem sn2_changed_moment : ((Str.ofString "changed" = Str.ofString "moment") ↔ False) := iff_false_intro (by decide)
@[simp] theorem sb2_changed_moment : (Str.ofString "changed" == Str.ofString "moment") = false := by decide
@[simp] theorem sn2_changed_first : ((Str.ofString "changed" = Str.ofString "first") ↔ False) := iff_false_intro (by decide)
@[simp] theorem sb2_changed_first : (Str.ofString "changed" == Str.ofString "first") = false := by decide
@[simp] theorem sn2_changed_last : ((Str.ofString "changed" = Str.ofString "last") ↔ False) := iff_false_intro (by decide)
@[simp] theorem sb2_changed_last : (Str.ofString "changed" == Str.ofString "last") = false := by decide
@[simp] theorem sn2_changed_cut : ((Str.ofString "changed" = Str.ofString "cut") ↔ False) := iff_false_intro (by decide)
@[simp] theorem sb2_changed_cut : (Str.ofString "changed" == Str.ofString "cut") = false := by decide
@[simp] theorem sn2_changed_count : ((Str.ofString "changed" = Str.ofString "count") ↔ False) := iff_false_intro (by decide)
@[simp] theorem sb2_changed_count : (Str.ofString "changed" == Str.ofString "count") = false := by decide
@[simp] theorem sn2_changed_many : ((Str.ofString "changed" = Str.ofString "many") ↔ False) := iff_false_intro (by decide)
@[simp] theorem sb2_changed_many : (Str.ofString "changed" == Str.ofString "many") = false := by decide
@[simp] theorem sn2_changed_weights : ((Str.ofString "changed" = Str.ofString "weights") ↔ False) := iff_false_intro (by decide)
@[simp] theorem sb2_changed_weights : (Str.ofString "changed" == Str.ofString "weights") = false := by decide
@[simp] theorem sn2_changed_kind : ((Str.ofString "changed" = Str.ofString "kind") ↔ False) := iff_false_intro (by decide)
@[simp] theorem sb2_changed_kind : (Str.ofString "changed" == Str.ofString "kind") = false := by decide
@[simp] theorem sn2_changed_changes : ((Str.ofString "changed" = Str.ofString "changes") ↔ False) := iff_false_intro (by decide)
@[simp] theorem sb2_changed_changes : (Str.ofString "changed" == Str.ofString "changes") = false := by decide
@[simp] theorem sn2_changed_lines : ((Str.ofString "changed" = Str.ofString "lines") ↔ False) := iff_false_intro (by decide)
@[simp] theorem sb2_changed_lines : (Str.ofString "changed" == Str.ofString "lines") = false := by decide
@[simp] theorem sn2_changed_happened : ((Str.ofString "changed" = Str.ofString "happened") ↔ False) := iff_false_intro (by decide)
@[simp] theorem sb2_changed_happened : (Str.ofString "changed" == Str.ofString "happened") = false := by decide
@[simp] theorem sn2_apart_lines_moment : ((Str.ofString "apart_lines" = Str.ofString "moment") ↔ False) := iff_false_intro (by decide)
@[simp] theorem sb2_apart_lines_moment : (Str.ofString "apart_lines" == Str.ofString "moment") = false := by decide
@[simp] theorem sn2_apart_lines_first : ((Str.ofString "apart_lines" = Str.ofString "first") ↔ False) := iff_false_intro (by decide)
@[simp] theorem sb2_apart_lines_first : (Str.ofString "apart_lines" == Str.ofString "first") = false := by decide
@[simp] theorem sn2_apart_lines_last : ((Str.ofString "apart_lines" = Str.ofString "last") ↔ False) := iff_false_intro (by decide)
@[simp] theorem sb2_apart_lines_last : (Str.ofString "apart_lines" == Str.ofString "last") = false := by decide
@[simp] theorem sn2_apart_lines_cut : ((Str.ofString "apart_lines" = Str.ofString "cut") ↔ False) := iff_false_intro (by decide)
@[simp] theorem sb2_apart_lines_cut : (Str.ofString "apart_lines" == Str.ofString "cut") = false := by decide
@[simp] theorem sn2_apart_lines_count : ((Str.ofString "apart_lines" = Str.ofString "count") ↔ False) := iff_false_intro (by decide)
@[simp] theorem sb2_apart_lines_count : (Str.ofString "apart_lines" == Str.ofString "count") = false := by decide
@[simp] theorem sn2_apart_lines_many : ((Str.ofString "apart_lines" = Str.ofString "many") ↔ False) := iff_false_intro (by decide)
@[simp] theorem sb2_apart_lines_many : (Str.ofString "apart_lines" == Str.ofString "many") = false := by decide
@[simp] theorem sn2_apart_lines_weights : ((Str.ofString "apart_lines" = Str.ofString "weights") ↔ False) := iff_false_intro (by decide)
@[simp] theorem sb2_apart_lines_weights : (Str.ofString "apart_lines" == Str.ofString "weights") = false := by decide
@[simp] theorem sn2_apart_lines_kind : ((Str.ofString "apart_lines" = Str.ofString "kind") ↔ False) := iff_false_intro (by decide)
@[simp] theorem sb2_apart_lines_kind : (Str.ofString "apart_lines" == Str.ofString "kind") = false := by decide
@[simp] theorem sn2_apart_lines_changes : ((Str.ofString "apart_lines" = Str.ofString "changes") ↔ False) := iff_false_intro (by decide)
@[simp] theorem sb2_apart_lines_changes : (Str.ofString "apart_lines" == Str.ofString "changes") = false := by decide
@[simp] theorem sn2_apart_lines_lines : ((Str.ofString "apart_lines" = Str.ofString "lines") ↔ False) := iff_false_intro (by decide)
@[simp] theorem sb2_apart_lines_lines : (Str.ofString "apart_lines" == Str.ofString "lines") = false := by decide
@[simp] theorem sn2_apart_lines_happened : ((Str.ofString "apart_lines" = Str.ofString "happened") ↔ False) := iff_false_intro (by decide)
@[simp] theorem sb2_apart_lines_happened : (Str.ofString "apart_lines" == Str.ofString "happened") = false := by decide
@[simp] theorem sn2_push_moment : ((Str.ofString "push" = Str.ofString "moment") ↔ False) := iff_false_intro (by decide)
@[simp] theorem sb2_push_moment : (Str.ofString "push" == Str.ofString "moment") = false := by decide
@[simp] theorem sn2_push_first : ((Str.ofString "push" = Str.ofString "first") ↔ False) := iff_false_intro (by decide)
@[simp] theorem sb2_push_first : (Str.ofString "push" == Str.ofString "first") = false := by decide
@[simp] theorem sn2_push_last : ((Str.ofString "push" = Str.ofString "last") ↔ False) := iff_false_intro (by decide)
@[simp] theorem sb2_push_last : (Str.ofString "push" == Str.ofString "last") = false := by decide
@[simp] theorem sn2_push_cut : ((Str.ofString "push" = Str.ofString "cut") ↔ False) := iff_false_intro (by decide)
@[simp] theorem sb2_push_cut : (Str.ofString "push" == Str.ofString "cut") = false := by decide
@[simp] theorem sn2_push_count : ((Str.ofString "push" = Str.ofString "count") ↔ False) := iff_false_intro (by decide)
@[simp] theorem sb2_push_count : (Str.ofString "push" == Str.ofString "count") = false := by decide
@[simp] theorem sn2_push_many : ((Str.ofString "push" = Str.ofString "many") ↔ False) := iff_false_intro (by decide)
@[simp] theorem sb2_push_many : (Str.ofString "push" == Str.ofString "many") = false := by decide
@[simp] theorem sn2_push_weights : ((Str.ofString "push" = Str.ofString "weights") ↔ False) := iff_false_intro (by decide)
@[simp] theorem sb2_push_weights : (Str.ofString "push" == Str.ofString "weights") = false := by decide
@[simp] theorem sn2_push_kind : ((Str.ofString "push" = Str.ofString "kind") ↔ False) := iff_false_intro (by decide)
@[simp] theorem sb2_push_kind : (Str.ofString "push" == Str.ofString "kind") = false := by decide
@[simp] theorem sn2_push_changes : ((Str.ofString "push" = Str.ofString "changes") ↔ False) := iff_false_intro (by decide)
@[simp] theorem sb2_push_changes : (Str.ofString "push" == Str.ofString "changes") = false := by decide
@[simp] theorem sn2_push_lines : ((Str.ofString "push" = Str.ofString "lines") ↔ False) := iff_false_intro (by decide)
@[simp] theorem sb2_push_lines : (Str.ofString "push" == Str.ofString "lines") = false := by decide
@[simp] theorem sn2_push_happened : ((Str.ofString "push" = Str.ofString "happened") ↔ False) := iff_false_intro (by decide)
@[simp] theorem sb2_push_happened : (Str.ofString "push" == Str.ofString "happened") = false := by decide
@[simp] theorem sn2_turn_moment : ((Str.ofString "turn" = Str.ofString "moment") ↔ False) := iff_false_intro (by decide)
@[simp] theorem sb2_turn_moment : (Str.ofString "turn" == Str.ofString "moment") = false := by decide
@[simp] theorem sn2_turn_first : ((Str.ofString "turn" = Str.ofString "first") ↔ False) := iff_false_intro (by decide)
@[simp] theorem sb2_turn_first : (Str.ofString "turn" == Str.ofString "first") = false := by decide
@[simp] theorem sn2_turn_last : ((Str.ofString "turn" = Str.ofString "last") ↔ False) := iff_false_intro (by decide)
@[simp] theorem sb2_turn_last : (Str.ofString "turn" == Str.ofString "last") = false := by decide
@[simp] theorem sn2_turn_cut : ((Str.ofString "turn" = Str.ofString "cut") ↔ False) := iff_false_intro (by decide)
@[simp] theorem sb2_turn_cut : (Str.ofString "turn" == Str.ofString "cut") = false := by decide
@[simp] theorem sn2_turn_count : ((Str.ofString "turn" = Str.ofString "count") ↔ False) := iff_false_intro (by decide)
@[simp] theorem sb2_turn_count : (Str.ofString "turn" == Str.ofString "count") = false := by decide
@[simp] theorem sn2_turn_many : ((Str.ofString "turn" = Str.ofString "many") ↔ False) := iff_false_intro (by decide)
@[simp] theorem sb2_turn_many : (Str.ofString "turn" == Str.ofString "many") = false := by decide
@[simp] theorem sn2_turn_weights : ((Str.ofString "turn" = Str.ofString "weights") ↔ False) := iff_false_intro (by decide)
@[simp] theorem sb2_turn_weights : (Str.ofString "turn" == Str.ofString "weights") = false := by decide
@[simp] theorem sn2_turn_kind : ((Str.ofString "turn" = Str.ofString "kind") ↔ False) := iff_false_intro (by decide)
@[simp] theorem sb2_turn_kind : (Str.ofString "turn" == Str.ofString "kind") = false := by decide
@[simp] theorem sn2_turn_changes : ((Str.ofString "turn" = Str.ofString "changes") ↔ False) := iff_false_intro (by decide)
@[simp] theorem sb2_turn_changes : (Str.ofString "turn" == Str.ofString "changes") = false := by decide
@[simp] theorem sn2_turn_lines : ((Str.ofString "turn" = Str.ofString "lines") ↔ False) := iff_false_intro (by decide)
@[simp] theorem sb2_turn_lines : (Str.ofString "turn" == Str.ofString "lines") = false := by decide
@[simp] theorem sn2_turn_happened : ((Str.ofString "turn" = Str.ofString "happened") ↔ False) := iff_false_intro (by decide)
@[simp] theorem sb2_turn_happened : (Str.ofString "turn" == Str.ofString "happened") = false := by decide
/-! evaluating instances -/
@[simp] theorem c_objI {F : FI} {c : Str} {fs : List (Str × Val)} {vs : List Val} {st : Sto} : callObj F (.ins c fs) vs st = callP F (.ins c fs :: vs) st := rfl
@[simp] theorem c_objP {F : FI} {us : List Val} {st1 : Sto} : callP F us st1 = if flats us = true then (match pure' F us with
  | .ok v _ => .ok v st1
  | .er c _ => .er c st1
  | .no => .no) else (match rds st1 12 us with
  | some ds => match pure' F ds with
    | .ok v _ => if tight v = true then .ok v st1 else .no
    | .er c _ => .er c st1
    | .no => .no
  | none => .no) := rfl
@[simp] theorem ff_nil : flatf [] = true := by simp only [flatf]
@[simp] theorem ff_cons {f : Str} {v : Val} {fs : List (Str × Val)} : flatf ((f, v) :: fs) = (flat v && flatf fs) := by simp only [flatf]
@[simp] theorem rf_nil {st : Sto} {n : Nat} : rdf st n [] = some [] := by cases n <;> simp only [rdf]
@[simp] theorem rf_cons {st : Sto} {n : Nat} {f : Str} {v : Val} {vs : List (Str × Val)} : rdf st (n + 1) ((f, v) :: vs) = match rd st n v, rdf st (n + 1) vs with
    | some d, some ds => some ((f, d) :: ds)
    | _, _ => none := by simp only [rdf] <;> rfl
@[simp] theorem look_ne {α : Type} {a k : Str} {b : α} {es : List (Str × α)} (h : (a == k) = false) : List.lookup a ((k, b) :: es) = List.lookup a es := by simp only [List.lookup, h]
@[simp] theorem fld_one {c f : Str} : fldOk [(c, [f])] c f = true := by simp [fldOk]
@[simp] theorem putV_nil {f : Str} {v : Val} : putV f v [] = [(f, v)] := rfl
@[simp] theorem putV_cons {f g : Str} {v x : Val} {r : List (Str × Val)} : putV f v ((g, x) :: r) = if g = f then (g, v) :: r else (g, x) :: putV f v r := rfl
end
end Bd

namespace Bd
noncomputable section
open PySem L2
/-! ## the drawn row -/
def lr_in : SI := (sSeq (sAsg (.nm 16) (eCallP F_law_number [] (aCons (eBin kIx (eVar 4) (eBin kMod (eBin kAdd (eVar 15) (eVar 1)) (eB kLen (aCons (eVar 4) aNil)))) (aCons (eBin kAdd (eVar 15) (eBin kMul (eC (.int 11)) (eVar 1))) (aCons (eVar 5) aNil)))))
  (sSeq (sAsg (.nm 10) (eBin kAdd (eBin kAdd (eVar 10) (eC (.int 1))) (eBin kMod (eBin kDiv (eVar 16) (eC (.int 3))) (eVar 8))))
  (sSeq (sAsg (.nm 17) (eIf (bTru (eVar 2)) (eVar 13) (eBin kAdd (eC (.int 1)) (eBin kMod (eBin kDiv (eVar 16) (eC (.int 270000))) (eVar 14)))))
  (sSeq (sAsg (.nm 18) (eBin kSub (eBin kMod (eBin kDiv (eVar 16) (eC (.int 16200000))) (eBin kIx (eTup (aCons (eC (.int 5)) (aCons (eC (.int 11)) (aCons (eC (.int 41)) (aCons (eC (.int 400001)) aNil))))) (eVar 9))) (eBin kIx (eTup (aCons (eC (.int 2)) (aCons (eC (.int 5)) (aCons (eC (.int 20)) (aCons (eC (.int 200000)) aNil))))) (eVar 9))))
  (sSeq (sAsg (.nm 19) (eCallP F_law_low [] (aCons (eVar 18) (aCons (eBin kAdd (eC (.int 1)) (eBin kMod (eBin kDiv (eVar 16) (eC (.int 6480016200000))) (eBin kIx (eTup (aCons (eC (.int 1)) (aCons (eC (.int 1)) (aCons (eC (.int 4)) (aCons (eC (.int 60)) aNil))))) (eVar 9)))) aNil))))
  (sExpr (eM mApp (eVar 11) (aCons (eTup (aCons (eVar 17) (aCons (eCallP F_law_low [] (aCons (eVar 10) (aCons (eVar 7) aNil))) (aCons (eVar 19) aNil)))) aNil))))))))
/-- the draws that a row's beads share -/
structure Dr7 (cs : List Int) (by' W bo gap same light : Int) (kind : Nat) : Prop where
  ne : cs ≠ []
  len : cs.length ≤ 63
  bits : ∀ z ∈ cs, Bt 1048576 z
  by0 : 0 ≤ by'
  by1 : by' ≤ 1000
  hW : Bt 1048600 W
  bo0 : 1 ≤ bo
  bo1 : bo ≤ 60
  gap0 : 1 ≤ gap
  gap1 : gap ≤ 90000
  same : Wt same
  light0 : 1 ≤ light
  light1 : light ≤ 60
  kind : kind ≤ 3
theorem cell_mod {cs : List Int} (x : Int) (h : cs ≠ []) : ∃ z ∈ cs, atI (cs.map Val.int) (x.fmod (cs.length : Int)) = some (.int z) := by
  have h0 : 0 < (cs.length : Int) := by
    cases cs with
    | nil => exact absurd rfl h
    | cons a b => simp
  have a := Int.fmod_nonneg_of_pos x h0
  have b := Int.fmod_lt_of_pos x h0
  obtain ⟨m, hm⟩ := Int.eq_ofNat_of_zero_le a
  rw [hm] at b ⊢
  have hl : m < cs.length := by omega
  exact ⟨cs[m], List.getElem_mem _, at_script hl⟩
theorem wt_mod (x : Int) {m : Int} (h0 : 0 < m) (h1 : m ≤ 60) : Wt (1 + x.fmod m) := by
  have a := Int.fmod_nonneg_of_pos x h0
  have b := Int.fmod_lt_of_pos x h0
  exact ⟨by omega, by omega⟩
/-- a share of mild numbers is mild -/
theorem Mild.divInt {t b : Int} (ht : t.natAbs ≤ 1000000) (h0 : 0 < b) (hb : b ≤ 60) : Mild (Rat.divInt t b) := by
  obtain ⟨e1, e2⟩ := low_pos (t := t) h0
  have g0 : 0 < Int.gcd t b := gcd_pos (by omega)
  constructor
  · rw [e1, Int.fdiv_eq_ediv_of_nonneg _ (by omega)]
    exact Nat.le_trans (Int.natAbs_ediv_le_natAbs _ _) ht
  · have h2 : b.fdiv (Int.gcd t b : Nat) ≤ b := by
      rw [Int.fdiv_eq_ediv_of_nonneg _ (by omega)]
      exact Int.ediv_le_self _ (by omega)
    omega
theorem pickk (vs : List Int) {k : Nat} (h : k < vs.length) : atI (vs.map Val.int) (k : Int) = some (.int vs[k]) := at_script h
theorem lr_turn {ns cs : List Int} {by' W bo gap same light most bl last : Int} {kind many : Nat} {al : Bool} (D : Dr7 cs by' W bo gap same light kind) {j : Nat} (hj : j ≤ 9) (h0 : -450000 ≤ last) (h1 : last + gap ≤ 1000000) {l : List Bead} (hl : l.length ≤ 20) (t16 t17 t18 t19 : Option Val) :
    ∃ b last' t16' t17' t18' t19', BeadOk b ∧ last < last' ∧ last' ≤ last + gap ∧ b.p = Rat.divInt last' bo ∧ (al = true → b.w = same) ∧
      lr_in [some (.scr (ns.map .int)), some (.int by'), some (.bl al), some (.int most), some (.lst (cs.map .int)), some (.int W), some (.int (many : Int)), some (.int bo), some (.int gap), some (.int (kind : Int)), some (.int last), some (.ref 0), some (.int bl), some (.int same), some (.int light), some (.int (j : Int)), t16, t17, t18, t19] [.lst (l.map encB)] = .nx [some (.scr (ns.map .int)), some (.int by'), some (.bl al), some (.int most), some (.lst (cs.map .int)), some (.int W), some (.int (many : Int)), some (.int bo), some (.int gap), some (.int (kind : Int)), some (.int last'), some (.ref 0), some (.int bl), some (.int same), some (.int light), some (.int (j : Int)), t16', t17', t18', t19'] [.lst ((l ++ [b]).map encB)] := by
  obtain ⟨z, hz, ez⟩ := cell_mod ((j : Int) + by') D.ne
  have y0 := D.by0
  have y1 := D.by1
  have g0 := D.gap0
  have g1 := D.gap1
  have l0 := D.light0
  have l1 := D.light1
  have o0 := D.bo0
  have o1 := D.bo1
  have b1 : Bt 20 ((j : Int) + 11 * by') := bt_of (b := 100000) (by omega) (by omega) (by unfold Bt; decide)
  have n1 := law_number_g ((D.bits z hz).mono (by decide)) b1 D.hW
  generalize lawNumber z ((j : Int) + 11 * by') W = N at n1
  have d3 : ∀ x, Builtin.divisionGoesByPylong x 3 = false := fun x => py_small (n := 10) (by unfold Bt; decide) (by decide)
  have da : ∀ x, Builtin.divisionGoesByPylong x 270000 = false := fun x => py_small (n := 30) (by unfold Bt; decide) (by decide)
  have db : ∀ x, Builtin.divisionGoesByPylong x 16200000 = false := fun x => py_small (n := 30) (by unfold Bt; decide) (by decide)
  have dc : ∀ x, Builtin.divisionGoesByPylong x 6480016200000 = false := fun x => py_small (n := 50) (by unfold Bt; decide) (by decide)
  have m11 : mulOk 11 by' = true := (by unfold Bt; decide : Bt 7 11).ok (bt_of (n := 20) (b := 1000) (by omega) (by omega) (by unfold Bt; decide)) (by decide)
  obtain ⟨u, hu, hu1⟩ : ∃ u, atI [Val.int 5, .int 11, .int 41, .int 400001] (kind : Int) = some (.int u) ∧ 0 < u ∧ u ≤ 400001 ∧ ∃ v, atI [Val.int 2, .int 5, .int 20, .int 200000] (kind : Int) = some (.int v) ∧ 0 ≤ v ∧ v ≤ 200000 ∧ ∃ d, atI [Val.int 1, .int 1, .int 4, .int 60] (kind : Int) = some (.int d) ∧ 1 ≤ d ∧ d ≤ 60 := by
    have k3 := D.kind
    rcases kind with _ | _ | _ | _ | k
    · exact ⟨5, rfl, by decide, by decide, 2, rfl, by decide, by decide, 1, rfl, by decide, by decide⟩
    · exact ⟨11, rfl, by decide, by decide, 5, rfl, by decide, by decide, 1, rfl, by decide, by decide⟩
    · exact ⟨41, rfl, by decide, by decide, 20, rfl, by decide, by decide, 4, rfl, by decide, by decide⟩
    · exact ⟨400001, rfl, by decide, by decide, 200000, rfl, by decide, by decide, 60, rfl, by decide, by decide⟩
    · omega
  obtain ⟨u0, u1, v, hv, v0, v1, d, hd, d0, d1⟩ := hu1
  have f1 := Int.fmod_nonneg_of_pos (N.fdiv 3) (show 0 < gap by omega)
  have f2 := Int.fmod_lt_of_pos (N.fdiv 3) (show 0 < gap by omega)
  have f3 := Int.fmod_nonneg_of_pos (N.fdiv 16200000) (show 0 < u by omega)
  have f4 := Int.fmod_lt_of_pos (N.fdiv 16200000) (show 0 < u by omega)
  have f5 := Int.fmod_nonneg_of_pos (N.fdiv 6480016200000) (show 0 < d by omega)
  have f6 := Int.fmod_lt_of_pos (N.fdiv 6480016200000) (show 0 < d by omega)
  have wt := wt_mod (N.fdiv 270000) (show 0 < light by omega) l1
  have hg0 : ¬ gap = 0 := by omega
  have hli0 : ¬ light = 0 := by omega
  have hu0 : ¬ u = 0 := by omega
  have hd0 : ¬ d = 0 := by omega
  generalize hL : last + 1 + (N.fdiv 3).fmod gap = L at *
  generalize hT : (N.fdiv 16200000).fmod u - v = T at *
  generalize hB : 1 + (N.fdiv 6480016200000).fmod d = B at *
  generalize hV : 1 + (N.fdiv 270000).fmod light = V at *
  have e1 := law_low_eq (t := T) (b := B) (by omega) (Bt.mono (n := 10) (m := 8999) (bt_of (b := 60) (by omega) (by omega) (by unfold Bt; decide)) (by decide))
  have e2 := law_low_eq (t := L) (b := bo) (by omega) (Bt.mono (n := 10) (m := 8999) (bt_of (b := 60) (by omega) (by omega) (by unfold Bt; decide)) (by decide))
  have hc0 : ¬ (cs.length : Int) = 0 := by have := List.length_pos_iff.mpr D.ne; omega
  have hlm : l.length ≤ 1000000 := by omega
  have mp : Mild (Rat.divInt L bo) := Mild.divInt (by omega) (by omega) o1
  have mv : Mild (Rat.divInt T B) := Mild.divInt (by omega) (by omega) (by omega)
  refine ⟨⟨if al = true then same else V, Rat.divInt L bo, Rat.divInt T B⟩, L, some (.int N), some (.int (if al = true then same else V)), some (.int T), some (encQ (Rat.divInt T B)), ⟨by split; exact D.same; exact wt, mp, mv⟩, by omega, by omega, rfl, fun h => by simp [h], ?_⟩
  have ne := D.ne
  simp only [lr_in]
  cases al <;> simp [ez, n1, d3, da, db, dc, m11, hu, hv, hd, hg0, hli0, hu0, hd0, hc0, ne, e1, e2, mApp, hlm, hL, hT, hB, hV, encB]
theorem divInt_lt {a b c : Int} (h : a < b) (hc : 0 < c) : Rat.divInt a c < Rat.divInt b c := by
  rw [Rat.divInt_eq_div, Rat.divInt_eq_div, Rat.div_lt_iff (wpos hc), Rat.div_mul_cancel (cast_ne (by omega))]
  exact Rat.intCast_lt_intCast.mpr h
theorem nb_left {l : List Bead} {b : Bead} {i : Nat} (h : i < l.length) : nb (l ++ [b]) i = nb l i := by
  rw [getD_get h, getD_get (by simp; omega), List.getElem_append_left h]
theorem nb_last {l : List Bead} {b : Bead} : nb (l ++ [b]) l.length = b := by
  rw [getD_get (by simp)]
  simp
theorem nb_mem {l : List Bead} {i : Nat} (h : i < l.length) : nb l i ∈ l := by
  rw [getD_get h]
  exact List.getElem_mem _
theorem lr_loop {ns cs : List Int} {by' W bo gap same light most bl last : Int} {kind many : Nat} {al : Bool} (D : Dr7 cs by' W bo gap same light kind) (hm : many ≤ 10) (h0 : -450000 ≤ last) (h1 : last ≤ 0) (t15 t16 t17 t18 t19 : Option Val) :
    ∃ l σ', l.length = many ∧ (∀ b ∈ l, BeadOk b) ∧ (∀ i, i + 1 < l.length → (nb l i).p < (nb l (i + 1)).p) ∧ (al = true → ∀ b ∈ l, b.w = same) ∧ σ'[11]? = some (some (.ref 0)) ∧
      forL (.nm 15) lr_in (fun _ => True) (rangeV 0 many) [some (.scr (ns.map .int)), some (.int by'), some (.bl al), some (.int most), some (.lst (cs.map .int)), some (.int W), some (.int (many : Int)), some (.int bo), some (.int gap), some (.int (kind : Int)), some (.int last), some (.ref 0), some (.int bl), some (.int same), some (.int light), t15, t16, t17, t18, t19] [.lst []] = .nx σ' [.lst (l.map encB)] := by
  obtain ⟨σ', st', e, l, la, u15, u16, u17, u18, u19, q1, q2, q3, q4, q5, q6, q7, q8, rfl⟩ := forL_ix (t := .nm 15) (body := lr_in) (still := fun _ => True) (items := rangeV 0 many) (k := 0) (σ := [some (.scr (ns.map .int)), some (.int by'), some (.bl al), some (.int most), some (.lst (cs.map .int)), some (.int W), some (.int (many : Int)), some (.int bo), some (.int gap), some (.int (kind : Int)), some (.int last), some (.ref 0), some (.int bl), some (.int same), some (.int light), t15, t16, t17, t18, t19]) (st := [.lst []])
    (fun k σ st => ∃ (l : List Bead) (la : Int) (u15 u16 u17 u18 u19 : Option Val), l.length = k ∧ (∀ b ∈ l, BeadOk b) ∧ (∀ i, i + 1 < l.length → (nb l i).p < (nb l (i + 1)).p) ∧ (al = true → ∀ b ∈ l, b.w = same) ∧ (∀ b ∈ l, b.p ≤ Rat.divInt la bo) ∧ -450000 ≤ la ∧ la ≤ 90000 * (k : Int) ∧ σ = [some (.scr (ns.map .int)), some (.int by'), some (.bl al), some (.int most), some (.lst (cs.map .int)), some (.int W), some (.int (many : Int)), some (.int bo), some (.int gap), some (.int (kind : Int)), some (.int la), some (.ref 0), some (.int bl), some (.int same), some (.int light), u15, u16, u17, u18, u19] ∧ st = [.lst (l.map encB)]) (fun _ _ _ _ => trivial) ⟨[], last, t15, t16, t17, t18, t19, rfl, by simp, by simp, by simp, by simp, h0, by omega, rfl, rfl⟩ (by
      rintro k v hv σ st ⟨l, la, u15, u16, u17, u18, u19, q1, q2, q3, q4, q5, q6, q7, rfl, rfl⟩
      have hk : k < many := by have := (List.getElem?_eq_some_iff.mp hv).1; rwa [rangeV_length] at this
      rw [rangeV_get hk] at hv
      cases hv
      have g1 := D.gap1
      have o0 := D.bo0
      obtain ⟨b, la', v16, v17, v18, v19, c1, c2, c3, c4, c5, e⟩ := lr_turn (ns := ns) (most := most) (bl := bl) (many := many) (al := al) D (j := k) (by omega) q6 (by omega) (l := l) (by omega) u16 u17 u18 u19
      refine ⟨_, by simp, _, _, .inl e, l ++ [b], la', some (.int k), v16, v17, v18, v19, by simp; omega, ?_, ?_, ?_, ?_, by omega, by omega, rfl, rfl⟩
      · intro x hx
        rcases List.mem_append.mp hx with hx | hx
        · exact q2 x hx
        · cases List.mem_singleton.mp hx; exact c1
      · intro i hi
        rw [List.length_append, List.length_singleton] at hi
        by_cases hil : i + 1 < l.length
        · rw [nb_left (by omega), nb_left hil]; exact q3 i hil
        · have : i + 1 = l.length := by omega
          rw [nb_left (by omega), this, nb_last, c4]
          have z1 := q5 _ (nb_mem (l := l) (i := i) (by omega))
          have z2 := divInt_lt c2 (show 0 < bo by omega)
          grind
      · intro ha x hx
        rcases List.mem_append.mp hx with hx | hx
        · exact q4 ha x hx
        · cases List.mem_singleton.mp hx; exact c5 ha
      · intro x hx
        rcases List.mem_append.mp hx with hx | hx
        · exact Rat.le_trans (q5 x hx) (Rat.le_of_lt (divInt_lt c2 (by omega)))
        · cases List.mem_singleton.mp hx; rw [c4]; exact Rat.le_refl)
  subst q8
  rw [rangeV_length] at q1
  exact ⟨l, _, by omega, q2, q3, q4, rfl, e⟩
theorem pick6 (a b c d e f x : Int) : ∃ w, atI [Val.int a, .int b, .int c, .int d, .int e, .int f] (x.fmod 6) = some (.int w) ∧ (w = a ∨ w = b ∨ w = c ∨ w = d ∨ w = e ∨ w = f) := by
  have h1 := Int.fmod_nonneg_of_pos x (by decide : (0 : Int) < 6)
  have h2 := Int.fmod_lt_of_pos x (by decide : (0 : Int) < 6)
  have : x.fmod 6 = 0 ∨ x.fmod 6 = 1 ∨ x.fmod 6 = 2 ∨ x.fmod 6 = 3 ∨ x.fmod 6 = 4 ∨ x.fmod 6 = 5 := by omega
  rcases this with h | h | h | h | h | h <;> rw [h]
  · exact ⟨a, rfl, by simp⟩
  · exact ⟨b, rfl, by simp⟩
  · exact ⟨c, rfl, by simp⟩
  · exact ⟨d, rfl, by simp⟩
  · exact ⟨e, rfl, by simp⟩
  · exact ⟨f, rfl, by simp⟩
def lr_cells : SI := (sAsg (.nm 4) (eIf (bOf (eBin (kEmp false) (eVar 0) (eLst aNil))) (eSl (eVar 0) pNone (pSome (eC (.int 63)))) (eLst (aCons (eC (.int 2)) aNil))))
theorem lr_cells_eq {ns : List Int} (hS : Scr ns) : ∃ cs : List Int, cs ≠ [] ∧ cs.length ≤ 63 ∧ (∀ z ∈ cs, Bt 1048576 z) ∧ Bt 1048590 cs.sum ∧ ∀ (a b c d : Option Val) (s : Sg), lr_cells (some (.scr (ns.map .int)) :: a :: b :: c :: d :: s) [] = .nx (some (.scr (ns.map .int)) :: a :: b :: c :: some (.lst (cs.map .int)) :: s) [] := by
  by_cases hn : ns = []
  · subst hn
    exact ⟨[2], by simp, by simp, by intro z hz; simp at hz; subst hz; exact Bt.mono (n := 10) (by unfold Bt; decide) (by decide), Bt.mono (n := 10) (by unfold Bt; decide) (by decide), fun a b c d s => by simp [lr_cells]⟩
  · have hc : cutG (ns.map Val.int) none (some 63) = ns.map Val.int := cutG_all _ 63 (by simpa using hS.len)
    exact ⟨ns, hn, hS.len, hS.bits, hS.sum, fun a b c d s => by simp [lr_cells, hc, hn]⟩
def lr_rest : SI := (sSeq (sAsg (.nm 5) (eBin kAdd (eB kSum (aCons (eVar 4) aNil)) (eVar 1)))
  (sSeq (sAsg (.nm 6) (eBin kAdd (eC (.int 1)) (eBin kMod (eVar 5) (eVar 3))))
  (sSeq (sAsg (.nm 7) (eBin kIx (eTup (aCons (eC (.int 1)) (aCons (eC (.int 1)) (aCons (eC (.int 2)) (aCons (eC (.int 3)) (aCons (eC (.int 4)) (aCons (eC (.int 60)) aNil))))))) (eBin kMod (eBin kDiv (eVar 5) (eC (.int 10))) (eC (.int 6)))))
  (sSeq (sAsg (.nm 8) (eBin kIx (eTup (aCons (eC (.int 3)) (aCons (eC (.int 9)) (aCons (eC (.int 90000)) aNil)))) (eBin kMod (eBin kDiv (eVar 5) (eC (.int 60))) (eC (.int 3)))))
  (sSeq (sAsg (.nm 9) (eBin kMod (eBin kDiv (eVar 5) (eC (.int 180))) (eC (.int 4))))
  (sSeq (sAsg (.nm 10) (eBin kMul (eUn kNeg (eVar 8)) (eBin kMod (eBin kDiv (eVar 5) (eC (.int 720))) (eC (.int 6)))))
  (sSeq (sPar2 11 12 (aCons (eLstN aNil) (aCons (eCallP F_law_number [] (aCons (eVar 5) (aCons (eBin kAdd (eVar 1) (eC (.int 3))) (aCons (eC (.int 5)) aNil)))) aNil)))
  (sSeq (sPar2 13 14 (aCons (eBin kAdd (eC (.int 1)) (eBin kMod (eBin kDiv (eVar 12) (eC (.int 4320))) (eC (.int 60)))) (aCons (eBin kIx (eTup (aCons (eC (.int 3)) (aCons (eC (.int 60)) aNil))) (eBin kMod (eBin kDiv (eVar 12) (eC (.int 259200))) (eC (.int 2)))) aNil)))
  (sSeq (sFor (iRange1 (eVar 6)) (.nm 15) lr_in)
  (sRet (eVar 11)))))))))))
theorem S_law_row_is : S_law_row = sSeq lr_cells lr_rest := rfl
theorem law_row_eq {ns : List Int} (hS : Scr ns) {k most : Int} {al : Bool} (k0 : 0 ≤ k) (k1 : k ≤ 1000) (m0 : 1 ≤ most) (m1 : most ≤ 10) :
    ∃ (l : List Bead) (same : Int), RowOk l ∧ (l.length : Int) ≤ most ∧ Wt same ∧ (al = true → ∀ b ∈ l, b.w = same) ∧ pure' F_law_row [.scr (ns.map .int), .int k, .bl al, .int most] = .ok (.lst (l.map encB)) [] := by
  obtain ⟨cs, c0, c1, c2, c3, ec⟩ := lr_cells_eq hS
  have bW : Bt 1048600 (cs.sum + k) := (c3.add (bt_of (n := 20) (b := 1000) (by omega) (by omega) (by unfold Bt; decide))).mono (by decide)
  have n1 := law_number_g (cell := cs.sum + k) (at' := k + 3) (whole := 5) bW (bt_of (b := 2000) (by omega) (by omega) (by unfold Bt; decide)) (Bt.mono (n := 10) (by unfold Bt; decide) (by decide))
  generalize hW : cs.sum + k = W at *
  generalize lawNumber W (k + 3) 5 = N at n1
  have pd : ∀ (i : Int), Bt 30 i → ∀ x, Builtin.divisionGoesByPylong x i = false := fun i h x => py_small (n := 30) h (by decide)
  have d10 := pd 10 (by unfold Bt; decide)
  have d60 := pd 60 (by unfold Bt; decide)
  have d180 := pd 180 (by unfold Bt; decide)
  have d720 := pd 720 (by unfold Bt; decide)
  have da := pd 4320 (by unfold Bt; decide)
  have db := pd 259200 (by unfold Bt; decide)
  obtain ⟨bo, hbo, bo1⟩ := pick6 1 1 2 3 4 60 (W.fdiv 10)
  obtain ⟨gap, hgap, gap1⟩ := pick3 3 9 90000 (W.fdiv 60)
  obtain ⟨li, hli, li1⟩ := pick2 3 60 (N.fdiv 259200)
  have f1 := Int.fmod_nonneg_of_pos W (show 0 < most by omega)
  have f2 := Int.fmod_lt_of_pos W (show 0 < most by omega)
  have f3 := Int.fmod_nonneg_of_pos (W.fdiv 180) (show (0 : Int) < 4 by decide)
  have f4 := Int.fmod_lt_of_pos (W.fdiv 180) (show (0 : Int) < 4 by decide)
  have f5 := Int.fmod_nonneg_of_pos (W.fdiv 720) (show (0 : Int) < 6 by decide)
  have f6 := Int.fmod_lt_of_pos (W.fdiv 720) (show (0 : Int) < 6 by decide)
  obtain ⟨many, hmany⟩ := Int.eq_ofNat_of_zero_le (show 0 ≤ 1 + W.fmod most by omega)
  obtain ⟨kind, hkind⟩ := Int.eq_ofNat_of_zero_le f3
  have hsame := wt_mod (N.fdiv 4320) (m := 60) (by decide) (by decide)
  have gap0 : 1 ≤ gap ∧ gap ≤ 90000 := by rcases gap1 with rfl | rfl | rfl <;> decide
  have li0 : 1 ≤ li ∧ li ≤ 60 := by rcases li1 with rfl | rfl <;> decide
  have bo0 : 1 ≤ bo ∧ bo ≤ 60 := by rcases bo1 with rfl | rfl | rfl | rfl | rfl | rfl <;> decide
  have ml : mulOk (-gap) ((W.fdiv 720).fmod 6) = true := (bt_of (n := 20) (b := 90000) (by omega) (by omega) (by unfold Bt; decide)).ok (bt_of (n := 10) (b := 6) (by omega) (by omega) (by unfold Bt; decide)) (by decide)
  have p0 : 0 ≤ gap * (W.fdiv 720).fmod 6 := Int.mul_nonneg (by omega) f5
  have p1 : gap * (W.fdiv 720).fmod 6 ≤ 90000 * 5 := Int.mul_le_mul gap0.2 (by omega) f5 (by decide)
  have em : -gap * (W.fdiv 720).fmod 6 = -(gap * (W.fdiv 720).fmod 6) := Int.neg_mul _ _
  generalize hsm : 1 + (N.fdiv 4320).fmod 60 = same at *
  have D : Dr7 cs k W bo gap same li kind := ⟨c0, c1, c2, k0, k1, bW, bo0.1, bo0.2, gap0.1, gap0.2, hsame, li0.1, li0.2, by omega⟩
  obtain ⟨l, σ', q1, q2, q3, q4, q5, e⟩ := lr_loop (ns := ns) (most := most) (bl := N) (al := al) D (many := many) (by omega) (last := -gap * (W.fdiv 720).fmod 6) (by omega) (by omega) none none none none none
  refine ⟨l, same, ⟨by intro h; rw [h] at q1; simp at q1; omega, by omega, q2, q3⟩, by omega, hsame, q4, ?_⟩
  have it : (iRange1 (eVar 6)) [some (.scr (ns.map .int)), some (.int k), some (.bl al), some (.int most), some (.lst (cs.map .int)), some (.int W), some (.int (many : Int)), some (.int bo), some (.int gap), some (.int (kind : Int)), some (.int (-gap * (W.fdiv 720).fmod 6)), some (.ref 0), some (.int N), some (.int same), some (.int li), none, none, none, none, none] [.lst []] = .ok (rangeV 0 many, fun _ => True) [.lst []] := x_range1_nat (by simp) (by omega)
  have ef := x_sFor (t := .nm 15) (body := lr_in) it trivial
  rw [e] at ef
  refine pure_rt (st := [.lst (l.map encB)]) (v := .ref 0) ?_ (by simp)
  rw [S_law_row_is]
  have e0 : ([Val.scr (ns.map .int), .int k, .bl al, .int most].map some ++ List.replicate (20 - [Val.scr (ns.map .int), .int k, .bl al, .int most].length) none : Sg) = some (.scr (ns.map .int)) :: some (.int k) :: some (.bl al) :: some (.int most) :: none :: List.replicate 15 none := rfl
  rw [e0, sSeq_nx (ec _ _ _ _ _)]
  generalize hF : sFor (iRange1 (eVar 6)) (.nm 15) lr_in = FL at ef
  have hm0 : ¬ most = 0 := by omega
  simp only [lr_rest, hF]
  simp [List.replicate, intsOf_map, hW, n1, d10, d60, d180, d720, da, db, hbo, hgap, hli, hmany, hkind, ml, hm0, hsm, ef, q5]
end
end Bd

namespace Bd
noncomputable section
open PySem L2
/-! ## shares with a size for the top and one for the bottom -/
def Sb (a b : Nat) (x : Rat) : Prop := Bt a x.num ∧ Bt b (x.den : Int)
theorem Sb.mono {a b c d : Nat} {x : Rat} (h : Sb a b x) (h1 : a ≤ c) (h2 : b ≤ d) : Sb c d x := ⟨h.1.mono h1, h.2.mono h2⟩
theorem Sq.b {n : Nat} {x : Rat} (h : Sq n x) : Sb n n x := ⟨h.bn, h.bd⟩
theorem Sb.divInt {n m : Nat} {t b : Int} (ht : Bt n t) (hb : Bt m b) (h0 : b ≠ 0) : Sb n m (Rat.divInt t b) := by
  have g := gcd_pos (a := t) h0
  by_cases hn : b < 0
  · obtain ⟨e1, e2⟩ := low_neg (t := t) hn
    rw [Int.fdiv_eq_ediv_of_dvd ((Int.neg_dvd).mpr dvd1), Int.ediv_neg] at e1
    rw [Int.fdiv_eq_ediv_of_dvd ((Int.neg_dvd).mpr dvd2), Int.ediv_neg] at e2
    refine ⟨?_, ?_⟩
    · unfold Bt
      rw [e1, Int.natAbs_neg, Int.natAbs_ediv_of_dvd dvd1]
      exact Nat.lt_of_le_of_lt (Nat.div_le_self _ _) ht
    · unfold Bt
      rw [e2, Int.natAbs_neg, Int.natAbs_ediv_of_dvd dvd2]
      exact Nat.lt_of_le_of_lt (Nat.div_le_self _ _) hb
  · obtain ⟨e1, e2⟩ := low_pos (t := t) (b := b) (by omega)
    rw [Int.fdiv_eq_ediv_of_dvd dvd1] at e1
    rw [Int.fdiv_eq_ediv_of_dvd dvd2] at e2
    refine ⟨?_, ?_⟩
    · unfold Bt
      rw [e1, Int.natAbs_ediv_of_dvd dvd1]
      exact Nat.lt_of_le_of_lt (Nat.div_le_self _ _) ht
    · unfold Bt
      rw [e2, Int.natAbs_ediv_of_dvd dvd2]
      exact Nat.lt_of_le_of_lt (Nat.div_le_self _ _) hb
section
variable {a b c d : Nat} {x y : Rat}
theorem Sb.add (hx : Sb a b x) (hy : Sb c d y) : Sb (a + b + c + d + 1) (b + d) (x + y) := by
  rw [← add_div x y]
  exact Sb.divInt (((hx.1.mul hy.2).add (hy.1.mul hx.2)).mono (by omega)) (hx.2.mul hy.2) (dd_ne x y)
theorem Sb.neg (hx : Sb a b x) : Sb a b (-x) := ⟨by rw [Rat.neg_num]; exact hx.1.neg, hx.2⟩
theorem Sb.sub (hx : Sb a b x) (hy : Sb c d y) : Sb (a + b + c + d + 1) (b + d) (x - y) := by
  rw [Rat.sub_eq_add_neg]; exact hx.add hy.neg
theorem Sb.mul (hx : Sb a b x) (hy : Sb c d y) : Sb (a + c) (b + d) (x * y) := by
  rw [← mul_div x y]
  exact Sb.divInt (hx.1.mul hy.1) (hx.2.mul hy.2) (dd_ne x y)
theorem Sb.div (hx : Sb a b x) (hy : Sb c d y) (h : y ≠ 0) : Sb (a + d) (b + c) (x / y) := by
  rw [← div_div' x y]
  exact Sb.divInt (hx.1.mul hy.2) (hx.2.mul hy.1) (Int.mul_ne_zero (den_ne x) (num_ne h))
theorem Bt.p9 {i : Int} {n : Nat} (h : Bt n i) (hn : n ≤ 8999) : i.natAbs < 2 ^ 8999 := Bt.mono h hn
theorem added_b (hx : Sb a b x) (hy : Sb c d y) (h : b + d ≤ 8999) (h2 : a + c ≤ 100000000) : pure' F_added [encQ x, encQ y] = .ok (encQ (x + y)) [] := by
  have e := lowest_eq (t := x.num * (y.den : Int) + y.num * (x.den : Int)) (dd_ne x y) ((hx.2.mul hy.2).p9 h)
  rw [add_div] at e
  exact pure_rt (st := []) (v := encQ (x + y)) (by simp [S_added, hx.1.ok hy.2 (by omega), hy.1.ok hx.2 (by omega), hx.2.ok hy.2 (by omega), e]) (by simp)
theorem less_b (hx : Sb a b x) (hy : Sb c d y) (h : b + d ≤ 8999) (h2 : a + c ≤ 100000000) : pure' F_less [encQ x, encQ y] = .ok (encQ (x - y)) [] := by
  have e := lowest_eq (t := x.num * (y.den : Int) - y.num * (x.den : Int)) (dd_ne x y) ((hx.2.mul hy.2).p9 h)
  rw [sub_div] at e
  exact pure_rt (st := []) (v := encQ (x - y)) (by simp [S_less, hx.1.ok hy.2 (by omega), hy.1.ok hx.2 (by omega), hx.2.ok hy.2 (by omega), e]) (by simp)
theorem product_b (hx : Sb a b x) (hy : Sb c d y) (h : b + d ≤ 8999) (h2 : a + c ≤ 100000000) : pure' F_product [encQ x, encQ y] = .ok (encQ (x * y)) [] := by
  have e := lowest_eq (t := x.num * y.num) (dd_ne x y) ((hx.2.mul hy.2).p9 h)
  rw [mul_div] at e
  exact pure_rt (st := []) (v := encQ (x * y)) (by simp [S_product, hx.1.ok hy.1 (by omega), hx.2.ok hy.2 (by omega), e]) (by simp)
theorem quotient_b (hx : Sb a b x) (hy : Sb c d y) (h : b + c ≤ 8999) (h2 : a + d ≤ 100000000) (hy0 : y ≠ 0) : pure' F_quotient [encQ x, encQ y] = .ok (encQ (x / y)) [] := by
  have e := lowest_eq (t := x.num * (y.den : Int)) (Int.mul_ne_zero (den_ne x) (num_ne hy0)) ((hx.2.mul hy.1).p9 h)
  rw [div_div'] at e
  exact pure_rt (st := []) (v := encQ (x / y)) (by simp [S_quotient, hx.1.ok hy.2 (by omega), hx.2.ok hy.1 (by omega), e]) (by simp)
theorem sign_b (hx : Sb a b x) (hy : Sb c d y) (h : a + b + c + d ≤ 100000000) : pure' F_sign [encQ x, encQ y] = .ok (.int (sgn x y)) [] := by
  have hp := far_pos x y
  have hz := far_zero x y
  have m1 := hx.1.ok hy.2 (by omega)
  have m2 := hy.1.ok hx.2 (by omega)
  refine pure_rt (st := []) (v := .int (sgn x y)) ?_ (by simp)
  by_cases h1 : y < x
  · have e0 : sgn x y = 1 := by unfold sgn; rw [if_pos h1]
    have := hp.mpr h1
    have this : y.num * (x.den : Int) < x.num * (y.den : Int) := by omega
    rw [e0]
    simp [S_sign, m1, m2, this]
  · have a1 := mt hp.mp h1
    have a2 : ¬ y.num * (x.den : Int) < x.num * (y.den : Int) := by omega
    by_cases h2 : x = y
    · have e0 : sgn x y = 0 := by unfold sgn; rw [if_neg h1, if_pos h2]
      have := hz.mpr h2
      rw [e0]
      simp [S_sign, m1, m2, a2, this]
    · have e0 : sgn x y = -1 := by unfold sgn; rw [if_neg h1, if_neg h2]
      have := mt hz.mp h2
      rw [e0]
      simp [S_sign, m1, m2, a2, this]
theorem law_sum_b (hx : Sb a b x) (hy : Sb c d y) (h : b + d ≤ 8999) (h2 : a + c ≤ 100000000) : pure' F_law_sum [encQ x, encQ y] = .ok (encQ (x + y)) [] := by
  have e := law_low_eq (t := x.num * (y.den : Int) + y.num * (x.den : Int)) (Int.mul_pos (den_pos' x) (den_pos' y)) ((hx.2.mul hy.2).p9 h)
  rw [add_div] at e
  exact pure_rt (st := []) (v := encQ (x + y)) (by simp [S_law_sum, hx.1.ok hy.2 (by omega), hy.1.ok hx.2 (by omega), hx.2.ok hy.2 (by omega), e]) (by simp)
theorem law_by_b (hx : Sb a b x) (hy : Sb c d y) (h : b + d ≤ 8999) (h2 : a + c ≤ 100000000) : pure' F_law_by [encQ x, encQ y] = .ok (encQ (x * y)) [] := by
  have e := law_low_eq (t := x.num * y.num) (Int.mul_pos (den_pos' x) (den_pos' y)) ((hx.2.mul hy.2).p9 h)
  rw [mul_div] at e
  exact pure_rt (st := []) (v := encQ (x * y)) (by simp [S_law_by, hx.1.ok hy.1 (by omega), hx.2.ok hy.2 (by omega), e]) (by simp)
theorem law_less_b (hx : Sb a b x) (hy : Sb c d y) (h : b + d ≤ 8999) (h2 : a + c ≤ 100000000) : pure' F_law_less [encQ x, encQ y] = .ok (encQ (x - y)) [] := by
  have e := law_sum_b hx hy.neg h h2
  rw [encQ_neg, ← Rat.sub_eq_add_neg] at e
  refine pure_rt (st := []) (v := encQ (x - y)) ?_ (by simp)
  simp [S_law_less, e]
theorem law_far_b (hx : Sb a b x) (hy : Sb c d y) (h : a + b + c + d ≤ 100000000) : pure' F_law_far [encQ x, encQ y] = .ok (.int (farI x y)) [] :=
  pure_rt (st := []) (v := .int (farI x y)) (by simp [S_law_far, hx.1.ok hy.2 (by omega), hy.1.ok hx.2 (by omega), farI]) (by simp)
end
/-- where a way is at a moment -/
theorem at_moment_b {a b c d e f : Nat} {p v t : Rat} (hp : Sb a b p) (hv : Sb c d v) (ht : Sb e f t) (h : b + d + f ≤ 8999) (h2 : a + c + e ≤ 100000000) : pure' F_at_moment [.tup [encQ p, encQ v], encQ t] = .ok (encQ (p + v * t)) [] := by
  have e1 := product_b hv ht (by omega) (by omega)
  have e2 := added_b hp (hv.mul ht) (by omega) (by omega)
  exact pure_rt (st := []) (v := encQ (p + v * t)) (by simp [S_at_moment, e1, e2]) (by simp)
theorem law_there_b {a b c d e f : Nat} {p v t : Rat} (hp : Sb a b p) (hv : Sb c d v) (ht : Sb e f t) (h : b + d + f ≤ 8999) (h2 : a + c + e ≤ 100000000) : pure' F_law_there [.tup [encQ p, encQ v], encQ t] = .ok (encQ (p + v * t)) [] := by
  have e1 := law_by_b hv ht (by omega) (by omega)
  have e2 := law_sum_b hp (hv.mul ht) (by omega) (by omega)
  exact pure_rt (st := []) (v := encQ (p + v * t)) (by simp [S_law_there, e1, e2]) (by simp)
/-- when two ways cross -/
def crossV (p v q u : Rat) : Val := if v ≤ u then .non else encQ ((q - p) / (v - u))
theorem crossing_b {n : Nat} {p v q u : Rat} (hp : Sq n p) (hv : Sq n v) (hq : Sq n q) (hu : Sq n u) (hn : n ≤ 1000) : pure' F_crossing [.tup [encQ p, encQ v], .tup [encQ q, encQ u]] = .ok (crossV p v q u) [] := by
  have e1 := sign_b hv.b hu.b (by omega)
  have s1 := hq.sub hp
  have s2 := hv.sub hu
  have e2 := less_b hq.b hp.b (by omega) (by omega)
  have e3 := less_b hv.b hu.b (by omega) (by omega)
  unfold crossV
  by_cases h : v ≤ u
  · have hs : sgn v u ≤ 0 := by unfold sgn; rw [if_neg (by grind)]; split <;> decide
    rw [if_pos h]
    exact pure_rt (st := []) (v := .non) (by simp [S_crossing, e1, hs]) (by simp)
  · have hs : ¬ sgn v u ≤ 0 := by unfold sgn; rw [if_pos (by grind)]; decide
    rw [if_neg h]
    have e4 := quotient_b s1.b s2.b (by omega) (by omega) (by grind)
    exact pure_rt (st := []) (v := encQ ((q - p) / (v - u))) (by simp [S_crossing, e1, hs, e2, e3, e4]) (by simp)
end
end Bd

namespace Bd
noncomputable section
open PySem L2
@[simp] theorem sl_encB {b : Bead} {st : Sto} : kSl (encB b) (some 1) none st = .ok (.tup [encQ b.p, encQ b.v]) st := rfl
theorem atB' {l : List Bead} {i : Nat} (h : i + 1 < l.length) : atI (l.map encB) ((i : Int) + 1) = some (encB (nb l (i + 1))) := by
  have := atB (l := l) (i := i + 1) h
  simpa using this
theorem flats_row (l : List Bead) : flats (l.map encB) = true := by
  rw [flats_all]; exact List.all_eq_true.mpr fun v hv => by obtain ⟨x, _, rfl⟩ := List.mem_map.mp hv; simp [encB]
/-- they meet at t -/
def meetsAt (a b : Bead) (t : Rat) : Prop := b.v < a.v ∧ (b.p - a.p) / (a.v - b.v) = t
instance (a b : Bead) (t : Rat) : Decidable (meetsAt a b t) := by unfold meetsAt; infer_instance
theorem meet_shows {l : List Bead} (ok : RowOk l) {i : Nat} (hi : i + 1 < l.length) (t : Rat) :
    pure' F_Meet_shows [.ins "Meet" [("moment", encQ t)], .lst (l.map encB), .int (i : Int)] = .ok (.bl (decide (meetsAt (nb l i) (nb l (i + 1)) t))) [] := by
  have a := ok.at (i := i) (by omega)
  have b := ok.at (i := i + 1) hi
  have e1 := atB (l := l) (i := i) (by omega)
  have e2 := atB' hi
  have c := crossing_b a.p.sq a.v.sq b.p.sq b.v.sq (by decide)
  refine pure_bl ⟨[], ?_⟩
  unfold crossV at c
  unfold meetsAt
  by_cases h : (nb l i).v ≤ (nb l (i + 1)).v
  · rw [if_pos h] at c
    have h' : ¬ (nb l (i + 1)).v < (nb l i).v := by grind
    simp [S_Meet_shows, e1, e2, c, h', PyData.eqv]
  · rw [if_neg h] at c
    have h' : (nb l (i + 1)).v < (nb l i).v := by grind
    simp [S_Meet_shows, e1, e2, c, h', PyData.eqv]
theorem never_shows {l : List Bead} (ok : RowOk l) {i : Nat} (hi : i + 1 < l.length) :
    pure' F_Never_shows [.ins "Never" [], .lst (l.map encB), .int (i : Int)] = .ok (.bl (decide ((nb l i).v ≤ (nb l (i + 1)).v))) [] := by
  have a := ok.at (i := i) (by omega)
  have b := ok.at (i := i + 1) hi
  have e1 := atB (l := l) (i := i) (by omega)
  have e2 := atB' hi
  have c := crossing_b a.p.sq a.v.sq b.p.sq b.v.sq (by decide)
  refine pure_bl ⟨[], ?_⟩
  unfold crossV at c
  by_cases h : (nb l i).v ≤ (nb l (i + 1)).v
  · rw [if_pos h] at c
    simp [S_Never_shows, e1, e2, c, h]
  · rw [if_neg h] at c
    simp [S_Never_shows, e1, e2, c, h]
theorem meet_init {v : Val} : F_Meet___init__ [.ref 0, v] [.ins "Meet" []] = .ok .non [.ins "Meet" [("moment", v)]] := by
  simp [F_Meet___init__, toF, S_Meet___init__]
/-! ## pair_meets, its answers -/
def ansV (x y : Bead) : Val := if x.v ≤ y.v then .ins "Never" [] else .ins "Meet" [("moment", encQ ((y.p - x.p) / (x.v - y.v)))]
theorem pair_meets_eq {l : List Bead} (ok : RowOk l) {i : Nat} (hi : i + 1 < l.length) : pure' F_pair_meets [.lst (l.map encB), .int (i : Int)] = .ok (ansV (nb l i) (nb l (i + 1))) [] := by
  have a := ok.at (i := i) (by omega)
  have b := ok.at (i := i + 1) hi
  have e1 := atB (l := l) (i := i) (by omega)
  have e2 := atB' hi
  have c := crossing_b a.p.sq a.v.sq b.p.sq b.v.sq (by decide)
  have r := check_row_eq ok
  have fr := flats_row l
  have g := check_bead_good (vs := l.map encB) (i := (i : Int)) fr (by omega) (by simp; omega)
  have hne : ¬ ((i : Int) + 1 = (l.length : Int)) := by omega
  unfold ansV
  unfold crossV at c
  have len : (l.map encB).length = l.length := by simp
  generalize l.map encB = R at *
  by_cases h : (nb l i).v ≤ (nb l (i + 1)).v
  · rw [if_pos h] at c ⊢
    exact pure_rt (st := []) (v := .ins "Never" []) (by simp [S_pair_meets, r, g, fr, len, hne, e1, e2, c]) (by simp)
  · rw [if_neg h] at c ⊢
    exact pure_rt (st := []) (v := .ins "Meet" [("moment", encQ (((nb l (i + 1)).p - (nb l i).p) / ((nb l i).v - (nb l (i + 1)).v)))]) (by simp [S_pair_meets, r, g, fr, len, hne, e1, e2, c, meet_init]) (by simp)
end
end Bd

namespace Bd
noncomputable section
open PySem L2
def top (i : Nat) : Stmt := PySem.Challenge.pw_beadway_k04_whole_middles.main.body.getD i (.Pass ⟨0, 0, 0, 0⟩)
/-- what of the top the defs use -/
structure Txt (K : PySem.W.Frag) (mg : Str → Option Value) : Prop where
  b_bool : mg "bool" = none
  b_isinstance : mg "isinstance" = none
  b_int : mg "int" = none
  b_abs : mg "abs" = none
  b_len : mg "len" = none
  b_tuple : mg "tuple" = none
  b_all : mg "all" = none
  b_list : mg "list" = none
  b_range : mg "range" = none
  b_any : mg "any" = none
  b_sum : mg "sum" = none
  b_enumerate : mg "enumerate" = none
  x_BadRow : ExK K mg "BadRow"
  x_BadBead : ExK K mg "BadBead"
  x_BadMoment : ExK K mg "BadMoment"
  c_FINEST : ∃ t, mg "FINEST" = some (.int 60 t)
  c_FARTHEST : ∃ t, mg "FARTHEST" = some (.int 1000000 t)
  c_HEAVIEST : ∃ t, mg "HEAVIEST" = some (.int 60 t)
  c_MOST : ∃ t, mg "MOST" = some (.int 10 t)
abbrev st_is_number : Stmt := top 6
theorem sc_is_number : FnScope ["thing"] ["thing"] (defScope st_is_number) := ⟨rfl, rfl, rfl, by decide +kernel, rfl, by decide +kernel, by decide +kernel⟩
theorem ok_is_number {P : Program} {w : World} {K : PySem.W.Frag} {mg : Str → Option Value} {base : Heap} (T : Txt K mg) {f : Addr} {fd : FuncData} (D : Fun K "is_number" "is_number" st_is_number f fd)    : FnOk P w K mg base (L2N.CX P w) 1 f fd ["thing"] (spI ⟨K, mg, none⟩ 1 F_is_number) := by
  refine fn_ok D sc_is_number rfl ?_
  rintro X W cdv A outer s H E rfl tk hr
  exact (ss_one (s_ret (i_and (i_callB kIsi_bears call_isi rfl T.b_isinstance (by decide +kernel) (a_cons (i_var 0) (a_cons (i_ty .int rfl T.b_int (by decide +kernel)) a_nil))) (i_one (i_not (i_callB kIsi_bears call_isi rfl T.b_isinstance (by decide +kernel) (a_cons (i_var 0) (a_cons (i_ty .bool rfl T.b_bool (by decide +kernel)) a_nil))))))))
theorem mk_is_number {P : Program} {w : World} {K : PySem.W.Frag} {mg : Str → Option Value} {base : Heap} (T : Txt K mg) {f : Addr} {fd : FuncData} (D : Fun K "is_number" "is_number" st_is_number f fd) (hm : mg "is_number" = some (.ref f)) (hb : Binds K fd ["thing"] [])    : Kn P w K mg base "is_number" 1 1 [] F_is_number :=
  ⟨f, fd, ["thing"], rfl, ok_is_number T D , hm, D.kp, hb⟩
abbrev st_common : Stmt := top 7
theorem sc_common : FnScope ["one", "other"] ["one", "other"] (defScope st_common) := ⟨rfl, rfl, rfl, by decide +kernel, rfl, by decide +kernel, by decide +kernel⟩
theorem ok_common {P : Program} {w : World} {K : PySem.W.Frag} {mg : Str → Option Value} {base : Heap} (T : Txt K mg) {f : Addr} {fd : FuncData} (D : Fun K "common" "common" st_common f fd)    : FnOk P w K mg base (L2N.CX P w) 1 f fd ["one", "other"] (spI ⟨K, mg, none⟩ 2 F_common) := by
  refine fn_ok D sc_common rfl ?_
  rintro X W cdv A outer s H E rfl tk hr
  have hp := passes_of (X := cxOf (L2N.CX P w) P w K mg base ["one", "other"] "common" (defScope st_common) f cdv A outer s H E) rfl
  exact (ss_cons (s_par2 rfl sc_common.nd (i := 0) (j := 1) rfl rfl (by decide) rfl rfl (a_cons (i_callB kAbs_bears call_abs rfl T.b_abs (by decide +kernel) (a_cons (i_var 0) a_nil)) (a_cons (i_callB kAbs_bears call_abs rfl T.b_abs (by decide +kernel) (a_cons (i_var 1) a_nil)) a_nil)))
  (ss_cons (s_while hp (t_gt (i_var 1) i_int) (ss_one (s_par2 rfl sc_common.nd (i := 0) (j := 1) rfl rfl (by decide) rfl rfl (a_cons (i_var 1) (a_cons (i_mod (i_var 0) (i_var 1)) a_nil)))))
  (ss_one (s_ret (i_var 0)))))
theorem mk_common {P : Program} {w : World} {K : PySem.W.Frag} {mg : Str → Option Value} {base : Heap} (T : Txt K mg) {f : Addr} {fd : FuncData} (D : Fun K "common" "common" st_common f fd) (hm : mg "common" = some (.ref f)) (hb : Binds K fd ["one", "other"] [])    : Kn P w K mg base "common" 1 2 [] F_common :=
  ⟨f, fd, ["one", "other"], rfl, ok_common T D , hm, D.kp, hb⟩
abbrev st_lowest : Stmt := top 8
theorem sc_lowest : FnScope ["top", "bottom", "by"] ["top", "bottom"] (defScope st_lowest) := ⟨rfl, rfl, rfl, by decide +kernel, rfl, by decide +kernel, by decide +kernel⟩
theorem ok_lowest {P : Program} {w : World} {K : PySem.W.Frag} {mg : Str → Option Value} {base : Heap} (T : Txt K mg) {f : Addr} {fd : FuncData} (D : Fun K "lowest" "lowest" st_lowest f fd) (k_common : Kn P w K mg base "common" 1 2 [] F_common)   : FnOk P w K mg base (L2N.CX P w) 2 f fd ["top", "bottom"] (spI ⟨K, mg, none⟩ 2 F_lowest) := by
  refine fn_ok D sc_lowest rfl ?_
  rintro X W cdv A outer s H E rfl tk hr
  exact (ss_cons (s_asg (i_kn k_common tk hr (by decide) rfl (a_cons (i_var 0) (a_cons (i_var 1) a_nil)) (len_cons (len_cons len_nil)) rfl) (g_nm sc_lowest.nd rfl (by first | exact Or.inl rfl | exact Or.inr rfl)))
  (ss_cons (s_if (t_lt (i_var 1) i_int) (ss_one (s_asg (i_neg (i_var 2)) (g_nm sc_lowest.nd rfl (by first | exact Or.inl rfl | exact Or.inr rfl)))) ss_nil)
  (ss_one (s_ret (i_tup (a_cons (i_div (i_var 0) (i_var 2)) (a_cons (i_div (i_var 1) (i_var 2)) a_nil)))))))
theorem mk_lowest {P : Program} {w : World} {K : PySem.W.Frag} {mg : Str → Option Value} {base : Heap} (T : Txt K mg) {f : Addr} {fd : FuncData} (D : Fun K "lowest" "lowest" st_lowest f fd) (hm : mg "lowest" = some (.ref f)) (hb : Binds K fd ["top", "bottom"] []) (k_common : Kn P w K mg base "common" 1 2 [] F_common)   : Kn P w K mg base "lowest" 2 2 [] F_lowest :=
  ⟨f, fd, ["top", "bottom"], rfl, ok_lowest T D k_common, hm, D.kp, hb⟩
abbrev st_is_share : Stmt := top 9
theorem sc_is_share : FnScope ["thing"] ["thing"] (defScope st_is_share) := ⟨rfl, rfl, rfl, by decide +kernel, rfl, by decide +kernel, by decide +kernel⟩
theorem ok_is_share {P : Program} {w : World} {K : PySem.W.Frag} {mg : Str → Option Value} {base : Heap} (T : Txt K mg) {f : Addr} {fd : FuncData} (D : Fun K "is_share" "is_share" st_is_share f fd) (k_is_number : Kn P w K mg base "is_number" 1 1 [] F_is_number) (k_common : Kn P w K mg base "common" 1 2 [] F_common)   : FnOk P w K mg base (L2N.CX P w) 2 f fd ["thing"] (spI ⟨K, mg, none⟩ 1 F_is_share) := by
  refine fn_ok D sc_is_share rfl ?_
  rintro X W cdv A outer s H E rfl tk hr
  have hu := hr.units
  exact (ss_cons (s_if (PW.pt (w_or (t_not (t_tru (i_callB kIsi_bears call_isi rfl T.b_isinstance (by decide +kernel) (a_cons (i_var 0) (a_cons (i_ty .tuple rfl T.b_tuple (by decide +kernel)) a_nil))))) (w_or (t_ne (i_callB kLen_bears call_len_seq rfl T.b_len PySem.boot_len (a_cons (i_var 0) a_nil)) i_int hu) (w_or (t_not (t_tru (i_kn k_is_number tk hr (by decide) rfl (a_cons (i_ix (i_var 0) i_int) a_nil) (len_cons len_nil) rfl))) (w_one (t_not (t_tru (i_kn k_is_number tk hr (by decide) rfl (a_cons (i_ix (i_var 0) i_int) a_nil) (len_cons len_nil) rfl)))))))) (ss_one (s_ret i_bl)) ss_nil)
  (ss_one (s_ret (i_and (i_gt (i_ix (i_var 0) i_int) i_int) (i_one (i_eq (i_kn k_common tk hr (by decide) rfl (a_cons (i_ix (i_var 0) i_int) (a_cons (i_ix (i_var 0) i_int) a_nil)) (len_cons (len_cons len_nil)) rfl) i_int hu))))))
theorem mk_is_share {P : Program} {w : World} {K : PySem.W.Frag} {mg : Str → Option Value} {base : Heap} (T : Txt K mg) {f : Addr} {fd : FuncData} (D : Fun K "is_share" "is_share" st_is_share f fd) (hm : mg "is_share" = some (.ref f)) (hb : Binds K fd ["thing"] []) (k_is_number : Kn P w K mg base "is_number" 1 1 [] F_is_number) (k_common : Kn P w K mg base "common" 1 2 [] F_common)   : Kn P w K mg base "is_share" 2 1 [] F_is_share :=
  ⟨f, fd, ["thing"], rfl, ok_is_share T D k_is_number k_common, hm, D.kp, hb⟩
abbrev st_added : Stmt := top 10
theorem sc_added : FnScope ["one", "other"] ["one", "other"] (defScope st_added) := ⟨rfl, rfl, rfl, by decide +kernel, rfl, by decide +kernel, by decide +kernel⟩
theorem ok_added {P : Program} {w : World} {K : PySem.W.Frag} {mg : Str → Option Value} {base : Heap} (T : Txt K mg) {f : Addr} {fd : FuncData} (D : Fun K "added" "added" st_added f fd) (k_lowest : Kn P w K mg base "lowest" 2 2 [] F_lowest)   : FnOk P w K mg base (L2N.CX P w) 3 f fd ["one", "other"] (spI ⟨K, mg, none⟩ 2 F_added) := by
  refine fn_ok D sc_added rfl ?_
  rintro X W cdv A outer s H E rfl tk hr
  exact (ss_one (s_ret (i_kn k_lowest tk hr (by decide) rfl (a_cons (i_add (i_mul (i_ix (i_var 0) i_int) (i_ix (i_var 1) i_int)) (i_mul (i_ix (i_var 1) i_int) (i_ix (i_var 0) i_int))) (a_cons (i_mul (i_ix (i_var 0) i_int) (i_ix (i_var 1) i_int)) a_nil)) (len_cons (len_cons len_nil)) rfl)))
theorem mk_added {P : Program} {w : World} {K : PySem.W.Frag} {mg : Str → Option Value} {base : Heap} (T : Txt K mg) {f : Addr} {fd : FuncData} (D : Fun K "added" "added" st_added f fd) (hm : mg "added" = some (.ref f)) (hb : Binds K fd ["one", "other"] []) (k_lowest : Kn P w K mg base "lowest" 2 2 [] F_lowest)   : Kn P w K mg base "added" 3 2 [] F_added :=
  ⟨f, fd, ["one", "other"], rfl, ok_added T D k_lowest, hm, D.kp, hb⟩
abbrev st_product : Stmt := top 11
theorem sc_product : FnScope ["one", "other"] ["one", "other"] (defScope st_product) := ⟨rfl, rfl, rfl, by decide +kernel, rfl, by decide +kernel, by decide +kernel⟩
theorem ok_product {P : Program} {w : World} {K : PySem.W.Frag} {mg : Str → Option Value} {base : Heap} (T : Txt K mg) {f : Addr} {fd : FuncData} (D : Fun K "product" "product" st_product f fd) (k_lowest : Kn P w K mg base "lowest" 2 2 [] F_lowest)   : FnOk P w K mg base (L2N.CX P w) 3 f fd ["one", "other"] (spI ⟨K, mg, none⟩ 2 F_product) := by
  refine fn_ok D sc_product rfl ?_
  rintro X W cdv A outer s H E rfl tk hr
  exact (ss_one (s_ret (i_kn k_lowest tk hr (by decide) rfl (a_cons (i_mul (i_ix (i_var 0) i_int) (i_ix (i_var 1) i_int)) (a_cons (i_mul (i_ix (i_var 0) i_int) (i_ix (i_var 1) i_int)) a_nil)) (len_cons (len_cons len_nil)) rfl)))
theorem mk_product {P : Program} {w : World} {K : PySem.W.Frag} {mg : Str → Option Value} {base : Heap} (T : Txt K mg) {f : Addr} {fd : FuncData} (D : Fun K "product" "product" st_product f fd) (hm : mg "product" = some (.ref f)) (hb : Binds K fd ["one", "other"] []) (k_lowest : Kn P w K mg base "lowest" 2 2 [] F_lowest)   : Kn P w K mg base "product" 3 2 [] F_product :=
  ⟨f, fd, ["one", "other"], rfl, ok_product T D k_lowest, hm, D.kp, hb⟩
abbrev st_quotient : Stmt := top 12
theorem sc_quotient : FnScope ["one", "other"] ["one", "other"] (defScope st_quotient) := ⟨rfl, rfl, rfl, by decide +kernel, rfl, by decide +kernel, by decide +kernel⟩
theorem ok_quotient {P : Program} {w : World} {K : PySem.W.Frag} {mg : Str → Option Value} {base : Heap} (T : Txt K mg) {f : Addr} {fd : FuncData} (D : Fun K "quotient" "quotient" st_quotient f fd) (k_lowest : Kn P w K mg base "lowest" 2 2 [] F_lowest)   : FnOk P w K mg base (L2N.CX P w) 3 f fd ["one", "other"] (spI ⟨K, mg, none⟩ 2 F_quotient) := by
  refine fn_ok D sc_quotient rfl ?_
  rintro X W cdv A outer s H E rfl tk hr
  exact (ss_one (s_ret (i_kn k_lowest tk hr (by decide) rfl (a_cons (i_mul (i_ix (i_var 0) i_int) (i_ix (i_var 1) i_int)) (a_cons (i_mul (i_ix (i_var 0) i_int) (i_ix (i_var 1) i_int)) a_nil)) (len_cons (len_cons len_nil)) rfl)))
theorem mk_quotient {P : Program} {w : World} {K : PySem.W.Frag} {mg : Str → Option Value} {base : Heap} (T : Txt K mg) {f : Addr} {fd : FuncData} (D : Fun K "quotient" "quotient" st_quotient f fd) (hm : mg "quotient" = some (.ref f)) (hb : Binds K fd ["one", "other"] []) (k_lowest : Kn P w K mg base "lowest" 2 2 [] F_lowest)   : Kn P w K mg base "quotient" 3 2 [] F_quotient :=
  ⟨f, fd, ["one", "other"], rfl, ok_quotient T D k_lowest, hm, D.kp, hb⟩
abbrev st_sign : Stmt := top 13
theorem sc_sign : FnScope ["one", "other", "far"] ["one", "other"] (defScope st_sign) := ⟨rfl, rfl, rfl, by decide +kernel, rfl, by decide +kernel, by decide +kernel⟩
theorem ok_sign {P : Program} {w : World} {K : PySem.W.Frag} {mg : Str → Option Value} {base : Heap} (T : Txt K mg) {f : Addr} {fd : FuncData} (D : Fun K "sign" "sign" st_sign f fd)    : FnOk P w K mg base (L2N.CX P w) 1 f fd ["one", "other"] (spI ⟨K, mg, none⟩ 2 F_sign) := by
  refine fn_ok D sc_sign rfl ?_
  rintro X W cdv A outer s H E rfl tk hr
  have hu := hr.units
  exact (ss_cons (s_asg (i_sub (i_mul (i_ix (i_var 0) i_int) (i_ix (i_var 1) i_int)) (i_mul (i_ix (i_var 1) i_int) (i_ix (i_var 0) i_int))) (g_nm sc_sign.nd rfl (by first | exact Or.inl rfl | exact Or.inr rfl)))
  (ss_one (s_ret (i_if (t_gt (i_var 2) i_int) i_int (i_if (t_eq (i_var 2) i_int hu) i_int (i_neg i_int))))))
theorem mk_sign {P : Program} {w : World} {K : PySem.W.Frag} {mg : Str → Option Value} {base : Heap} (T : Txt K mg) {f : Addr} {fd : FuncData} (D : Fun K "sign" "sign" st_sign f fd) (hm : mg "sign" = some (.ref f)) (hb : Binds K fd ["one", "other"] [])    : Kn P w K mg base "sign" 1 2 [] F_sign :=
  ⟨f, fd, ["one", "other"], rfl, ok_sign T D , hm, D.kp, hb⟩
abbrev st_is_mild : Stmt := top 19
theorem sc_is_mild : FnScope ["thing"] ["thing"] (defScope st_is_mild) := ⟨rfl, rfl, rfl, by decide +kernel, rfl, by decide +kernel, by decide +kernel⟩
theorem ok_is_mild {P : Program} {w : World} {K : PySem.W.Frag} {mg : Str → Option Value} {base : Heap} (T : Txt K mg) {f : Addr} {fd : FuncData} (D : Fun K "is_mild" "is_mild" st_is_mild f fd) (k_is_share : Kn P w K mg base "is_share" 2 1 [] F_is_share)   : FnOk P w K mg base (L2N.CX P w) 3 f fd ["thing"] (spI ⟨K, mg, none⟩ 1 F_is_mild) := by
  refine fn_ok D sc_is_mild rfl ?_
  rintro X W cdv A outer s H E rfl tk hr
  exact (ss_one (s_ret (i_and (i_kn k_is_share tk hr (by decide) rfl (a_cons (i_var 0) a_nil) (len_cons len_nil) rfl) (i_and (i_le (i_callB kAbs_bears call_abs rfl T.b_abs (by decide +kernel) (a_cons (i_ix (i_var 0) i_int) a_nil)) (i_const T.c_FARTHEST rfl)) (i_one (i_le (i_ix (i_var 0) i_int) (i_const T.c_FINEST rfl)))))))
theorem mk_is_mild {P : Program} {w : World} {K : PySem.W.Frag} {mg : Str → Option Value} {base : Heap} (T : Txt K mg) {f : Addr} {fd : FuncData} (D : Fun K "is_mild" "is_mild" st_is_mild f fd) (hm : mg "is_mild" = some (.ref f)) (hb : Binds K fd ["thing"] []) (k_is_share : Kn P w K mg base "is_share" 2 1 [] F_is_share)   : Kn P w K mg base "is_mild" 3 1 [] F_is_mild :=
  ⟨f, fd, ["thing"], rfl, ok_is_mild T D k_is_share, hm, D.kp, hb⟩
abbrev st_is_bead : Stmt := top 20
theorem sc_is_bead : FnScope ["thing"] ["thing"] (defScope st_is_bead) := ⟨rfl, rfl, rfl, by decide +kernel, rfl, by decide +kernel, by decide +kernel⟩
theorem ok_is_bead {P : Program} {w : World} {K : PySem.W.Frag} {mg : Str → Option Value} {base : Heap} (T : Txt K mg) {f : Addr} {fd : FuncData} (D : Fun K "is_bead" "is_bead" st_is_bead f fd) (k_is_number : Kn P w K mg base "is_number" 1 1 [] F_is_number) (k_is_mild : Kn P w K mg base "is_mild" 3 1 [] F_is_mild)   : FnOk P w K mg base (L2N.CX P w) 4 f fd ["thing"] (spI ⟨K, mg, none⟩ 1 F_is_bead) := by
  refine fn_ok D sc_is_bead rfl ?_
  rintro X W cdv A outer s H E rfl tk hr
  have hu := hr.units
  exact (ss_cons (s_if (PW.pt (w_or (t_not (t_tru (i_callB kIsi_bears call_isi rfl T.b_isinstance (by decide +kernel) (a_cons (i_var 0) (a_cons (i_ty .tuple rfl T.b_tuple (by decide +kernel)) a_nil))))) (w_or (t_ne (i_callB kLen_bears call_len_seq rfl T.b_len PySem.boot_len (a_cons (i_var 0) a_nil)) i_int hu) (w_one (t_not (t_tru (i_kn k_is_number tk hr (by decide) rfl (a_cons (i_ix (i_var 0) i_int) a_nil) (len_cons len_nil) rfl))))))) (ss_one (s_ret i_bl)) ss_nil)
  (ss_one (s_ret (i_and (i_chain op_le op_le b_le b_le i_int (i_ix (i_var 0) i_int) (i_const T.c_HEAVIEST rfl)) (i_and (i_kn k_is_mild tk hr (by decide) rfl (a_cons (i_ix (i_var 0) i_int) a_nil) (len_cons len_nil) rfl) (i_one (i_kn k_is_mild tk hr (by decide) rfl (a_cons (i_ix (i_var 0) i_int) a_nil) (len_cons len_nil) rfl)))))))
theorem mk_is_bead {P : Program} {w : World} {K : PySem.W.Frag} {mg : Str → Option Value} {base : Heap} (T : Txt K mg) {f : Addr} {fd : FuncData} (D : Fun K "is_bead" "is_bead" st_is_bead f fd) (hm : mg "is_bead" = some (.ref f)) (hb : Binds K fd ["thing"] []) (k_is_number : Kn P w K mg base "is_number" 1 1 [] F_is_number) (k_is_mild : Kn P w K mg base "is_mild" 3 1 [] F_is_mild)   : Kn P w K mg base "is_bead" 4 1 [] F_is_bead :=
  ⟨f, fd, ["thing"], rfl, ok_is_bead T D k_is_number k_is_mild, hm, D.kp, hb⟩
abbrev st_check_row : Stmt := top 21
theorem sc_check_row : FnScope ["row", "at", "bead"] ["row"] (defScope st_check_row) := ⟨rfl, rfl, rfl, by decide +kernel, rfl, by decide +kernel, by decide +kernel⟩
theorem ok_check_row {P : Program} {w : World} {K : PySem.W.Frag} {mg : Str → Option Value} {base : Heap} (T : Txt K mg) {f : Addr} {fd : FuncData} (D : Fun K "check_row" "check_row" st_check_row f fd) (k_is_bead : Kn P w K mg base "is_bead" 4 1 [] F_is_bead) (k_sign : Kn P w K mg base "sign" 1 2 [] F_sign)   : FnOk P w K mg base (L2N.CX P w) 5 f fd ["row"] (spI ⟨K, mg, none⟩ 1 F_check_row) := by
  refine fn_ok D sc_check_row rfl ?_
  rintro X W cdv A outer s H E rfl tk hr
  exact (ss_cons (s_if (PW.pt (w_or (t_not (t_tru (i_callB kIsi_bears call_isi rfl T.b_isinstance (by decide +kernel) (a_cons (i_var 0) (a_cons (i_ty .list rfl T.b_list (by decide +kernel)) a_nil))))) (w_or (t_not (t_chain op_le op_le b_le b_le i_int (i_callB kLen_bears call_len_seq rfl T.b_len PySem.boot_len (a_cons (i_var 0) a_nil)) (i_const T.c_MOST rfl))) (w_one (t_not (t_tru (i_callB kAll_bears (cr_all rfl) rfl T.b_all (by decide +kernel) (a_cons (i_lc (own := [("bead", 2)]) rfl sc_check_row.nd (it_seq (i_var 0)) (blkOk_by (own := [("bead", 2)]) (N := ["row", "at", "bead"]) (sc := defScope st_check_row) (by decide +kernel)) (by decide) (fun _ _ _ _ _ => (g_nm sc_check_row.nd rfl (by first | exact Or.inl rfl | exact Or.inr rfl))) (fun _ _ _ _ _ => ts_nil) (fun _ _ _ _ _ => by have tk := @takesN; exact (i_kn k_is_bead tk hr (by decide) rfl (a_cons (i_var 2) a_nil) (len_cons len_nil) rfl))) a_nil)))))))) (ss_one (s_ex (x := "BadRow") T.x_BadRow rfl tk rfl)) ss_nil)
  (ss_one (s_if (t_tru (i_callB kAny_bears (cr_any rfl) rfl T.b_any (by decide +kernel) (a_cons (i_lc (own := [("at", 1)]) rfl sc_check_row.nd (it_range2 rfl T.b_range i_int (i_callB kLen_bears call_len_seq rfl T.b_len PySem.boot_len (a_cons (i_var 0) a_nil))) (blkOk_by (own := [("at", 1)]) (N := ["row", "at", "bead"]) (sc := defScope st_check_row) (by decide +kernel)) (by decide) (fun _ _ _ _ _ => (g_nm sc_check_row.nd rfl (by first | exact Or.inl rfl | exact Or.inr rfl))) (fun _ _ _ _ _ => ts_nil) (fun _ _ _ _ _ => by have tk := @takesN; exact (i_ge (i_kn k_sign tk hr (by decide) rfl (a_cons (i_ix (i_ix (i_var 0) (i_sub (i_var 1) i_int)) i_int) (a_cons (i_ix (i_ix (i_var 0) (i_var 1)) i_int) a_nil)) (len_cons (len_cons len_nil)) rfl) i_int))) a_nil))) (ss_one (s_ex (x := "BadRow") T.x_BadRow rfl tk rfl)) ss_nil)))
theorem mk_check_row {P : Program} {w : World} {K : PySem.W.Frag} {mg : Str → Option Value} {base : Heap} (T : Txt K mg) {f : Addr} {fd : FuncData} (D : Fun K "check_row" "check_row" st_check_row f fd) (hm : mg "check_row" = some (.ref f)) (hb : Binds K fd ["row"] []) (k_is_bead : Kn P w K mg base "is_bead" 4 1 [] F_is_bead) (k_sign : Kn P w K mg base "sign" 1 2 [] F_sign)   : Kn P w K mg base "check_row" 5 1 [] F_check_row :=
  ⟨f, fd, ["row"], rfl, ok_check_row T D k_is_bead k_sign, hm, D.kp, hb⟩
abbrev st_check_bead : Stmt := top 22
theorem sc_check_bead : FnScope ["row", "bead"] ["row", "bead"] (defScope st_check_bead) := ⟨rfl, rfl, rfl, by decide +kernel, rfl, by decide +kernel, by decide +kernel⟩
theorem ok_check_bead {P : Program} {w : World} {K : PySem.W.Frag} {mg : Str → Option Value} {base : Heap} (T : Txt K mg) {f : Addr} {fd : FuncData} (D : Fun K "check_bead" "check_bead" st_check_bead f fd) (k_is_number : Kn P w K mg base "is_number" 1 1 [] F_is_number)   : FnOk P w K mg base (L2N.CX P w) 2 f fd ["row", "bead"] (spI ⟨K, mg, none⟩ 2 F_check_bead) := by
  refine fn_ok D sc_check_bead rfl ?_
  rintro X W cdv A outer s H E rfl tk hr
  exact (ss_one (s_if (PW.pt (w_or (t_not (t_tru (i_kn k_is_number tk hr (by decide) rfl (a_cons (i_var 1) a_nil) (len_cons len_nil) rfl))) (w_one (t_not (t_chain op_le op_lt b_le b_lt i_int (i_var 1) (i_callB kLen_bears call_len_seq rfl T.b_len PySem.boot_len (a_cons (i_var 0) a_nil))))))) (ss_one (s_ex (x := "BadBead") T.x_BadBead rfl tk rfl)) ss_nil))
theorem mk_check_bead {P : Program} {w : World} {K : PySem.W.Frag} {mg : Str → Option Value} {base : Heap} (T : Txt K mg) {f : Addr} {fd : FuncData} (D : Fun K "check_bead" "check_bead" st_check_bead f fd) (hm : mg "check_bead" = some (.ref f)) (hb : Binds K fd ["row", "bead"] []) (k_is_number : Kn P w K mg base "is_number" 1 1 [] F_is_number)   : Kn P w K mg base "check_bead" 2 2 [] F_check_bead :=
  ⟨f, fd, ["row", "bead"], rfl, ok_check_bead T D k_is_number, hm, D.kp, hb⟩
abbrev st_check_stretch : Stmt := top 23
theorem sc_check_stretch : FnScope ["row", "first", "last"] ["row", "first", "last"] (defScope st_check_stretch) := ⟨rfl, rfl, rfl, by decide +kernel, rfl, by decide +kernel, by decide +kernel⟩
theorem ok_check_stretch {P : Program} {w : World} {K : PySem.W.Frag} {mg : Str → Option Value} {base : Heap} (T : Txt K mg) {f : Addr} {fd : FuncData} (D : Fun K "check_stretch" "check_stretch" st_check_stretch f fd) (k_check_bead : Kn P w K mg base "check_bead" 2 2 [] F_check_bead)   : FnOk P w K mg base (L2N.CX P w) 3 f fd ["row", "first", "last"] (spI ⟨K, mg, none⟩ 3 F_check_stretch) := by
  refine fn_ok D sc_check_stretch rfl ?_
  rintro X W cdv A outer s H E rfl tk hr
  exact (ss_cons (s_expr (i_kn k_check_bead tk hr (by decide) rfl (a_cons (i_var 0) (a_cons (i_var 1) a_nil)) (len_cons (len_cons len_nil)) rfl))
  (ss_cons (s_expr (i_kn k_check_bead tk hr (by decide) rfl (a_cons (i_var 0) (a_cons (i_var 2) a_nil)) (len_cons (len_cons len_nil)) rfl))
  (ss_one (s_if (t_lt (i_var 2) (i_var 1)) (ss_one (s_ex (x := "BadBead") T.x_BadBead rfl tk rfl)) ss_nil))))
theorem mk_check_stretch {P : Program} {w : World} {K : PySem.W.Frag} {mg : Str → Option Value} {base : Heap} (T : Txt K mg) {f : Addr} {fd : FuncData} (D : Fun K "check_stretch" "check_stretch" st_check_stretch f fd) (hm : mg "check_stretch" = some (.ref f)) (hb : Binds K fd ["row", "first", "last"] []) (k_check_bead : Kn P w K mg base "check_bead" 2 2 [] F_check_bead)   : Kn P w K mg base "check_stretch" 3 3 [] F_check_stretch :=
  ⟨f, fd, ["row", "first", "last"], rfl, ok_check_stretch T D k_check_bead, hm, D.kp, hb⟩
abbrev st_is_moment : Stmt := top 24
theorem sc_is_moment : FnScope ["thing"] ["thing"] (defScope st_is_moment) := ⟨rfl, rfl, rfl, by decide +kernel, rfl, by decide +kernel, by decide +kernel⟩
theorem ok_is_moment {P : Program} {w : World} {K : PySem.W.Frag} {mg : Str → Option Value} {base : Heap} (T : Txt K mg) {f : Addr} {fd : FuncData} (D : Fun K "is_moment" "is_moment" st_is_moment f fd) (k_is_share : Kn P w K mg base "is_share" 2 1 [] F_is_share)   : FnOk P w K mg base (L2N.CX P w) 3 f fd ["thing"] (spI ⟨K, mg, none⟩ 1 F_is_moment) := by
  refine fn_ok D sc_is_moment rfl ?_
  rintro X W cdv A outer s H E rfl tk hr
  exact (ss_one (s_ret (i_and (i_kn k_is_share tk hr (by decide) rfl (a_cons (i_var 0) a_nil) (len_cons len_nil) rfl) (i_one (i_ge (i_ix (i_var 0) i_int) i_int)))))
theorem mk_is_moment {P : Program} {w : World} {K : PySem.W.Frag} {mg : Str → Option Value} {base : Heap} (T : Txt K mg) {f : Addr} {fd : FuncData} (D : Fun K "is_moment" "is_moment" st_is_moment f fd) (hm : mg "is_moment" = some (.ref f)) (hb : Binds K fd ["thing"] []) (k_is_share : Kn P w K mg base "is_share" 2 1 [] F_is_share)   : Kn P w K mg base "is_moment" 3 1 [] F_is_moment :=
  ⟨f, fd, ["thing"], rfl, ok_is_moment T D k_is_share, hm, D.kp, hb⟩
abbrev st_check_moment : Stmt := top 25
theorem sc_check_moment : FnScope ["moment"] ["moment"] (defScope st_check_moment) := ⟨rfl, rfl, rfl, by decide +kernel, rfl, by decide +kernel, by decide +kernel⟩
theorem ok_check_moment {P : Program} {w : World} {K : PySem.W.Frag} {mg : Str → Option Value} {base : Heap} (T : Txt K mg) {f : Addr} {fd : FuncData} (D : Fun K "check_moment" "check_moment" st_check_moment f fd) (k_is_moment : Kn P w K mg base "is_moment" 3 1 [] F_is_moment)   : FnOk P w K mg base (L2N.CX P w) 4 f fd ["moment"] (spI ⟨K, mg, none⟩ 1 F_check_moment) := by
  refine fn_ok D sc_check_moment rfl ?_
  rintro X W cdv A outer s H E rfl tk hr
  exact (ss_one (s_if (t_not (t_tru (i_kn k_is_moment tk hr (by decide) rfl (a_cons (i_var 0) a_nil) (len_cons len_nil) rfl))) (ss_one (s_ex (x := "BadMoment") T.x_BadMoment rfl tk rfl)) ss_nil))
theorem mk_check_moment {P : Program} {w : World} {K : PySem.W.Frag} {mg : Str → Option Value} {base : Heap} (T : Txt K mg) {f : Addr} {fd : FuncData} (D : Fun K "check_moment" "check_moment" st_check_moment f fd) (hm : mg "check_moment" = some (.ref f)) (hb : Binds K fd ["moment"] []) (k_is_moment : Kn P w K mg base "is_moment" 3 1 [] F_is_moment)   : Kn P w K mg base "check_moment" 4 1 [] F_check_moment :=
  ⟨f, fd, ["moment"], rfl, ok_check_moment T D k_is_moment, hm, D.kp, hb⟩
abbrev st_weight_in : Stmt := top 26
theorem sc_weight_in : FnScope ["row", "first", "last", "bead"] ["row", "first", "last"] (defScope st_weight_in) := ⟨rfl, rfl, rfl, by decide +kernel, rfl, by decide +kernel, by decide +kernel⟩
theorem ok_weight_in {P : Program} {w : World} {K : PySem.W.Frag} {mg : Str → Option Value} {base : Heap} (T : Txt K mg) {f : Addr} {fd : FuncData} (D : Fun K "weight_in" "weight_in" st_weight_in f fd)    : FnOk P w K mg base (L2N.CX P w) 1 f fd ["row", "first", "last"] (spI ⟨K, mg, none⟩ 3 F_weight_in) := by
  refine fn_ok D sc_weight_in rfl ?_
  rintro X W cdv A outer s H E rfl tk hr
  exact (ss_one (s_ret (i_callB kSum_bears (cr_sum rfl) rfl T.b_sum (by decide +kernel) (a_cons (i_lc (own := [("bead", 3)]) rfl sc_weight_in.nd (it_seq (i_sl (i_var 0) (p_some (i_var 1)) (p_some (i_add (i_var 2) i_int)))) (blkOk_by (own := [("bead", 3)]) (N := ["row", "first", "last", "bead"]) (sc := defScope st_weight_in) (by decide +kernel)) (by decide) (fun _ _ _ _ _ => (g_nm sc_weight_in.nd rfl (by first | exact Or.inl rfl | exact Or.inr rfl))) (fun _ _ _ _ _ => ts_nil) (fun _ _ _ _ _ => (i_ix (i_var 3) i_int))) a_nil))))
theorem mk_weight_in {P : Program} {w : World} {K : PySem.W.Frag} {mg : Str → Option Value} {base : Heap} (T : Txt K mg) {f : Addr} {fd : FuncData} (D : Fun K "weight_in" "weight_in" st_weight_in f fd) (hm : mg "weight_in" = some (.ref f)) (hb : Binds K fd ["row", "first", "last"] [])    : Kn P w K mg base "weight_in" 1 3 [] F_weight_in :=
  ⟨f, fd, ["row", "first", "last"], rfl, ok_weight_in T D , hm, D.kp, hb⟩
abbrev st_sum_in : Stmt := top 27
theorem sc_sum_in : FnScope ["row", "first", "last", "part", "found", "bead"] ["row", "first", "last", "part"] (defScope st_sum_in) := ⟨rfl, rfl, rfl, by decide +kernel, rfl, by decide +kernel, by decide +kernel⟩
theorem ok_sum_in {P : Program} {w : World} {K : PySem.W.Frag} {mg : Str → Option Value} {base : Heap} (T : Txt K mg) {f : Addr} {fd : FuncData} (D : Fun K "sum_in" "sum_in" st_sum_in f fd) (k_product : Kn P w K mg base "product" 3 2 [] F_product) (k_added : Kn P w K mg base "added" 3 2 [] F_added)   : FnOk P w K mg base (L2N.CX P w) 4 f fd ["row", "first", "last", "part"] (spI ⟨K, mg, none⟩ 4 F_sum_in) := by
  refine fn_ok D sc_sum_in rfl ?_
  rintro X W cdv A outer s H E rfl tk hr
  have hp := passes_of (X := cxOf (L2N.CX P w) P w K mg base ["row", "first", "last", "part", "found", "bead"] "sum_in" (defScope st_sum_in) f cdv A outer s H E) rfl
  exact (ss_cons (s_asg (i_tup (a_cons i_int (a_cons i_int a_nil))) (g_nm sc_sum_in.nd rfl (by first | exact Or.inl rfl | exact Or.inr rfl)))
  (ss_cons (s_for hp rfl (it_seq (i_sl (i_var 0) (p_some (i_var 1)) (p_some (i_add (i_var 2) i_int)))) (g_nm sc_sum_in.nd rfl (by first | exact Or.inl rfl | exact Or.inr rfl)) (ss_one (s_asg (i_kn k_added tk hr (by decide) rfl (a_cons (i_var 4) (a_cons (i_kn k_product tk hr (by decide) rfl (a_cons (i_tup (a_cons (i_ix (i_var 5) i_int) (a_cons i_int a_nil))) (a_cons (i_ix (i_var 5) (i_var 3)) a_nil)) (len_cons (len_cons len_nil)) rfl) a_nil)) (len_cons (len_cons len_nil)) rfl) (g_nm sc_sum_in.nd rfl (by first | exact Or.inl rfl | exact Or.inr rfl)))))
  (ss_one (s_ret (i_var 4)))))
theorem mk_sum_in {P : Program} {w : World} {K : PySem.W.Frag} {mg : Str → Option Value} {base : Heap} (T : Txt K mg) {f : Addr} {fd : FuncData} (D : Fun K "sum_in" "sum_in" st_sum_in f fd) (hm : mg "sum_in" = some (.ref f)) (hb : Binds K fd ["row", "first", "last", "part"] []) (k_product : Kn P w K mg base "product" 3 2 [] F_product) (k_added : Kn P w K mg base "added" 3 2 [] F_added)   : Kn P w K mg base "sum_in" 4 4 [] F_sum_in :=
  ⟨f, fd, ["row", "first", "last", "part"], rfl, ok_sum_in T D k_product k_added, hm, D.kp, hb⟩
abbrev st_at_moment : Stmt := top 28
theorem sc_at_moment : FnScope ["line", "moment"] ["line", "moment"] (defScope st_at_moment) := ⟨rfl, rfl, rfl, by decide +kernel, rfl, by decide +kernel, by decide +kernel⟩
theorem ok_at_moment {P : Program} {w : World} {K : PySem.W.Frag} {mg : Str → Option Value} {base : Heap} (T : Txt K mg) {f : Addr} {fd : FuncData} (D : Fun K "at_moment" "at_moment" st_at_moment f fd) (k_product : Kn P w K mg base "product" 3 2 [] F_product) (k_added : Kn P w K mg base "added" 3 2 [] F_added)   : FnOk P w K mg base (L2N.CX P w) 4 f fd ["line", "moment"] (spI ⟨K, mg, none⟩ 2 F_at_moment) := by
  refine fn_ok D sc_at_moment rfl ?_
  rintro X W cdv A outer s H E rfl tk hr
  exact (ss_one (s_ret (i_kn k_added tk hr (by decide) rfl (a_cons (i_ix (i_var 0) i_int) (a_cons (i_kn k_product tk hr (by decide) rfl (a_cons (i_ix (i_var 0) i_int) (a_cons (i_var 1) a_nil)) (len_cons (len_cons len_nil)) rfl) a_nil)) (len_cons (len_cons len_nil)) rfl)))
theorem mk_at_moment {P : Program} {w : World} {K : PySem.W.Frag} {mg : Str → Option Value} {base : Heap} (T : Txt K mg) {f : Addr} {fd : FuncData} (D : Fun K "at_moment" "at_moment" st_at_moment f fd) (hm : mg "at_moment" = some (.ref f)) (hb : Binds K fd ["line", "moment"] []) (k_product : Kn P w K mg base "product" 3 2 [] F_product) (k_added : Kn P w K mg base "added" 3 2 [] F_added)   : Kn P w K mg base "at_moment" 4 2 [] F_at_moment :=
  ⟨f, fd, ["line", "moment"], rfl, ok_at_moment T D k_product k_added, hm, D.kp, hb⟩
abbrev st_line_in : Stmt := top 30
theorem sc_line_in : FnScope ["row", "first", "last", "weight"] ["row", "first", "last"] (defScope st_line_in) := ⟨rfl, rfl, rfl, by decide +kernel, rfl, by decide +kernel, by decide +kernel⟩
theorem ok_line_in {P : Program} {w : World} {K : PySem.W.Frag} {mg : Str → Option Value} {base : Heap} (T : Txt K mg) {f : Addr} {fd : FuncData} (D : Fun K "line_in" "line_in" st_line_in f fd) (k_weight_in : Kn P w K mg base "weight_in" 1 3 [] F_weight_in) (k_sum_in : Kn P w K mg base "sum_in" 4 4 [] F_sum_in) (k_quotient : Kn P w K mg base "quotient" 3 2 [] F_quotient)   : FnOk P w K mg base (L2N.CX P w) 5 f fd ["row", "first", "last"] (spI ⟨K, mg, none⟩ 3 F_line_in) := by
  refine fn_ok D sc_line_in rfl ?_
  rintro X W cdv A outer s H E rfl tk hr
  exact (ss_cons (s_asg (i_tup (a_cons (i_kn k_weight_in tk hr (by decide) rfl (a_cons (i_var 0) (a_cons (i_var 1) (a_cons (i_var 2) a_nil))) (len_cons (len_cons (len_cons len_nil))) rfl) (a_cons i_int a_nil))) (g_nm sc_line_in.nd rfl (by first | exact Or.inl rfl | exact Or.inr rfl)))
  (ss_one (s_ret (i_tup (a_cons (i_kn k_quotient tk hr (by decide) rfl (a_cons (i_kn k_sum_in tk hr (by decide) rfl (a_cons (i_var 0) (a_cons (i_var 1) (a_cons (i_var 2) (a_cons i_int a_nil)))) (len_cons (len_cons (len_cons (len_cons len_nil)))) rfl) (a_cons (i_var 3) a_nil)) (len_cons (len_cons len_nil)) rfl) (a_cons (i_kn k_quotient tk hr (by decide) rfl (a_cons (i_kn k_sum_in tk hr (by decide) rfl (a_cons (i_var 0) (a_cons (i_var 1) (a_cons (i_var 2) (a_cons i_int a_nil)))) (len_cons (len_cons (len_cons (len_cons len_nil)))) rfl) (a_cons (i_var 3) a_nil)) (len_cons (len_cons len_nil)) rfl) a_nil))))))
theorem mk_line_in {P : Program} {w : World} {K : PySem.W.Frag} {mg : Str → Option Value} {base : Heap} (T : Txt K mg) {f : Addr} {fd : FuncData} (D : Fun K "line_in" "line_in" st_line_in f fd) (hm : mg "line_in" = some (.ref f)) (hb : Binds K fd ["row", "first", "last"] []) (k_weight_in : Kn P w K mg base "weight_in" 1 3 [] F_weight_in) (k_sum_in : Kn P w K mg base "sum_in" 4 4 [] F_sum_in) (k_quotient : Kn P w K mg base "quotient" 3 2 [] F_quotient)   : Kn P w K mg base "line_in" 5 3 [] F_line_in :=
  ⟨f, fd, ["row", "first", "last"], rfl, ok_line_in T D k_weight_in k_sum_in k_quotient, hm, D.kp, hb⟩
abbrev st_middle_in : Stmt := top 29
theorem sc_middle_in : FnScope ["row", "first", "last", "moment"] ["row", "first", "last", "moment"] (defScope st_middle_in) := ⟨rfl, rfl, rfl, by decide +kernel, rfl, by decide +kernel, by decide +kernel⟩
theorem ok_middle_in {P : Program} {w : World} {K : PySem.W.Frag} {mg : Str → Option Value} {base : Heap} (T : Txt K mg) {f : Addr} {fd : FuncData} (D : Fun K "middle_in" "middle_in" st_middle_in f fd) (k_line_in : Kn P w K mg base "line_in" 5 3 [] F_line_in) (k_at_moment : Kn P w K mg base "at_moment" 4 2 [] F_at_moment)   : FnOk P w K mg base (L2N.CX P w) 6 f fd ["row", "first", "last", "moment"] (spI ⟨K, mg, none⟩ 4 F_middle_in) := by
  refine fn_ok D sc_middle_in rfl ?_
  rintro X W cdv A outer s H E rfl tk hr
  exact (ss_one (s_ret (i_kn k_at_moment tk hr (by decide) rfl (a_cons (i_kn k_line_in tk hr (by decide) rfl (a_cons (i_var 0) (a_cons (i_var 1) (a_cons (i_var 2) a_nil))) (len_cons (len_cons (len_cons len_nil))) rfl) (a_cons (i_var 3) a_nil)) (len_cons (len_cons len_nil)) rfl)))
theorem mk_middle_in {P : Program} {w : World} {K : PySem.W.Frag} {mg : Str → Option Value} {base : Heap} (T : Txt K mg) {f : Addr} {fd : FuncData} (D : Fun K "middle_in" "middle_in" st_middle_in f fd) (hm : mg "middle_in" = some (.ref f)) (hb : Binds K fd ["row", "first", "last", "moment"] []) (k_line_in : Kn P w K mg base "line_in" 5 3 [] F_line_in) (k_at_moment : Kn P w K mg base "at_moment" 4 2 [] F_at_moment)   : Kn P w K mg base "middle_in" 6 4 [] F_middle_in :=
  ⟨f, fd, ["row", "first", "last", "moment"], rfl, ok_middle_in T D k_line_in k_at_moment, hm, D.kp, hb⟩
abbrev st_weight_of : Stmt := top 31
theorem sc_weight_of : FnScope ["row", "first", "last"] ["row", "first", "last"] (defScope st_weight_of) := ⟨rfl, rfl, rfl, by decide +kernel, rfl, by decide +kernel, by decide +kernel⟩
theorem ok_weight_of {P : Program} {w : World} {K : PySem.W.Frag} {mg : Str → Option Value} {base : Heap} (T : Txt K mg) {f : Addr} {fd : FuncData} (D : Fun K "weight_of" "weight_of" st_weight_of f fd) (k_check_row : Kn P w K mg base "check_row" 5 1 [] F_check_row) (k_check_stretch : Kn P w K mg base "check_stretch" 3 3 [] F_check_stretch) (k_weight_in : Kn P w K mg base "weight_in" 1 3 [] F_weight_in)   : FnOk P w K mg base (L2N.CX P w) 6 f fd ["row", "first", "last"] (spI ⟨K, mg, none⟩ 3 F_weight_of) := by
  refine fn_ok D sc_weight_of rfl ?_
  rintro X W cdv A outer s H E rfl tk hr
  exact (ss_cons (s_expr (i_kn k_check_row tk hr (by decide) rfl (a_cons (i_var 0) a_nil) (len_cons len_nil) rfl))
  (ss_cons (s_expr (i_kn k_check_stretch tk hr (by decide) rfl (a_cons (i_var 0) (a_cons (i_var 1) (a_cons (i_var 2) a_nil))) (len_cons (len_cons (len_cons len_nil))) rfl))
  (ss_one (s_ret (i_kn k_weight_in tk hr (by decide) rfl (a_cons (i_var 0) (a_cons (i_var 1) (a_cons (i_var 2) a_nil))) (len_cons (len_cons (len_cons len_nil))) rfl)))))
theorem mk_weight_of {P : Program} {w : World} {K : PySem.W.Frag} {mg : Str → Option Value} {base : Heap} (T : Txt K mg) {f : Addr} {fd : FuncData} (D : Fun K "weight_of" "weight_of" st_weight_of f fd) (hm : mg "weight_of" = some (.ref f)) (hb : Binds K fd ["row", "first", "last"] []) (k_check_row : Kn P w K mg base "check_row" 5 1 [] F_check_row) (k_check_stretch : Kn P w K mg base "check_stretch" 3 3 [] F_check_stretch) (k_weight_in : Kn P w K mg base "weight_in" 1 3 [] F_weight_in)   : Kn P w K mg base "weight_of" 6 3 [] F_weight_of :=
  ⟨f, fd, ["row", "first", "last"], rfl, ok_weight_of T D k_check_row k_check_stretch k_weight_in, hm, D.kp, hb⟩
abbrev st_drive_of : Stmt := top 32
theorem sc_drive_of : FnScope ["row", "first", "last"] ["row", "first", "last"] (defScope st_drive_of) := ⟨rfl, rfl, rfl, by decide +kernel, rfl, by decide +kernel, by decide +kernel⟩
theorem ok_drive_of {P : Program} {w : World} {K : PySem.W.Frag} {mg : Str → Option Value} {base : Heap} (T : Txt K mg) {f : Addr} {fd : FuncData} (D : Fun K "drive_of" "drive_of" st_drive_of f fd) (k_check_row : Kn P w K mg base "check_row" 5 1 [] F_check_row) (k_check_stretch : Kn P w K mg base "check_stretch" 3 3 [] F_check_stretch) (k_sum_in : Kn P w K mg base "sum_in" 4 4 [] F_sum_in)   : FnOk P w K mg base (L2N.CX P w) 6 f fd ["row", "first", "last"] (spI ⟨K, mg, none⟩ 3 F_drive_of) := by
  refine fn_ok D sc_drive_of rfl ?_
  rintro X W cdv A outer s H E rfl tk hr
  exact (ss_cons (s_expr (i_kn k_check_row tk hr (by decide) rfl (a_cons (i_var 0) a_nil) (len_cons len_nil) rfl))
  (ss_cons (s_expr (i_kn k_check_stretch tk hr (by decide) rfl (a_cons (i_var 0) (a_cons (i_var 1) (a_cons (i_var 2) a_nil))) (len_cons (len_cons (len_cons len_nil))) rfl))
  (ss_one (s_ret (i_kn k_sum_in tk hr (by decide) rfl (a_cons (i_var 0) (a_cons (i_var 1) (a_cons (i_var 2) (a_cons i_int a_nil)))) (len_cons (len_cons (len_cons (len_cons len_nil)))) rfl)))))
theorem mk_drive_of {P : Program} {w : World} {K : PySem.W.Frag} {mg : Str → Option Value} {base : Heap} (T : Txt K mg) {f : Addr} {fd : FuncData} (D : Fun K "drive_of" "drive_of" st_drive_of f fd) (hm : mg "drive_of" = some (.ref f)) (hb : Binds K fd ["row", "first", "last"] []) (k_check_row : Kn P w K mg base "check_row" 5 1 [] F_check_row) (k_check_stretch : Kn P w K mg base "check_stretch" 3 3 [] F_check_stretch) (k_sum_in : Kn P w K mg base "sum_in" 4 4 [] F_sum_in)   : Kn P w K mg base "drive_of" 6 3 [] F_drive_of :=
  ⟨f, fd, ["row", "first", "last"], rfl, ok_drive_of T D k_check_row k_check_stretch k_sum_in, hm, D.kp, hb⟩
abbrev st_straight : Stmt := top 33
theorem sc_straight : FnScope ["row", "bead", "moment"] ["row", "bead", "moment"] (defScope st_straight) := ⟨rfl, rfl, rfl, by decide +kernel, rfl, by decide +kernel, by decide +kernel⟩
theorem ok_straight {P : Program} {w : World} {K : PySem.W.Frag} {mg : Str → Option Value} {base : Heap} (T : Txt K mg) {f : Addr} {fd : FuncData} (D : Fun K "straight" "straight" st_straight f fd) (k_check_row : Kn P w K mg base "check_row" 5 1 [] F_check_row) (k_check_bead : Kn P w K mg base "check_bead" 2 2 [] F_check_bead) (k_check_moment : Kn P w K mg base "check_moment" 4 1 [] F_check_moment) (k_middle_in : Kn P w K mg base "middle_in" 6 4 [] F_middle_in)   : FnOk P w K mg base (L2N.CX P w) 7 f fd ["row", "bead", "moment"] (spI ⟨K, mg, none⟩ 3 F_straight) := by
  refine fn_ok D sc_straight rfl ?_
  rintro X W cdv A outer s H E rfl tk hr
  exact (ss_cons (s_expr (i_kn k_check_row tk hr (by decide) rfl (a_cons (i_var 0) a_nil) (len_cons len_nil) rfl))
  (ss_cons (s_expr (i_kn k_check_bead tk hr (by decide) rfl (a_cons (i_var 0) (a_cons (i_var 1) a_nil)) (len_cons (len_cons len_nil)) rfl))
  (ss_cons (s_expr (i_kn k_check_moment tk hr (by decide) rfl (a_cons (i_var 2) a_nil) (len_cons len_nil) rfl))
  (ss_one (s_ret (i_kn k_middle_in tk hr (by decide) rfl (a_cons (i_var 0) (a_cons (i_var 1) (a_cons (i_var 1) (a_cons (i_var 2) a_nil)))) (len_cons (len_cons (len_cons (len_cons len_nil)))) rfl))))))
theorem mk_straight {P : Program} {w : World} {K : PySem.W.Frag} {mg : Str → Option Value} {base : Heap} (T : Txt K mg) {f : Addr} {fd : FuncData} (D : Fun K "straight" "straight" st_straight f fd) (hm : mg "straight" = some (.ref f)) (hb : Binds K fd ["row", "bead", "moment"] []) (k_check_row : Kn P w K mg base "check_row" 5 1 [] F_check_row) (k_check_bead : Kn P w K mg base "check_bead" 2 2 [] F_check_bead) (k_check_moment : Kn P w K mg base "check_moment" 4 1 [] F_check_moment) (k_middle_in : Kn P w K mg base "middle_in" 6 4 [] F_middle_in)   : Kn P w K mg base "straight" 7 3 [] F_straight :=
  ⟨f, fd, ["row", "bead", "moment"], rfl, ok_straight T D k_check_row k_check_bead k_check_moment k_middle_in, hm, D.kp, hb⟩
abbrev st_middle : Stmt := top 34
theorem sc_middle : FnScope ["row", "first", "last", "moment"] ["row", "first", "last", "moment"] (defScope st_middle) := ⟨rfl, rfl, rfl, by decide +kernel, rfl, by decide +kernel, by decide +kernel⟩
theorem ok_middle {P : Program} {w : World} {K : PySem.W.Frag} {mg : Str → Option Value} {base : Heap} (T : Txt K mg) {f : Addr} {fd : FuncData} (D : Fun K "middle" "middle" st_middle f fd) (k_check_row : Kn P w K mg base "check_row" 5 1 [] F_check_row) (k_check_stretch : Kn P w K mg base "check_stretch" 3 3 [] F_check_stretch) (k_check_moment : Kn P w K mg base "check_moment" 4 1 [] F_check_moment) (k_middle_in : Kn P w K mg base "middle_in" 6 4 [] F_middle_in)   : FnOk P w K mg base (L2N.CX P w) 7 f fd ["row", "first", "last", "moment"] (spI ⟨K, mg, none⟩ 4 F_middle) := by
  refine fn_ok D sc_middle rfl ?_
  rintro X W cdv A outer s H E rfl tk hr
  exact (ss_cons (s_expr (i_kn k_check_row tk hr (by decide) rfl (a_cons (i_var 0) a_nil) (len_cons len_nil) rfl))
  (ss_cons (s_expr (i_kn k_check_stretch tk hr (by decide) rfl (a_cons (i_var 0) (a_cons (i_var 1) (a_cons (i_var 2) a_nil))) (len_cons (len_cons (len_cons len_nil))) rfl))
  (ss_cons (s_expr (i_kn k_check_moment tk hr (by decide) rfl (a_cons (i_var 3) a_nil) (len_cons len_nil) rfl))
  (ss_one (s_ret (i_kn k_middle_in tk hr (by decide) rfl (a_cons (i_var 0) (a_cons (i_var 1) (a_cons (i_var 2) (a_cons (i_var 3) a_nil)))) (len_cons (len_cons (len_cons (len_cons len_nil)))) rfl))))))
theorem mk_middle {P : Program} {w : World} {K : PySem.W.Frag} {mg : Str → Option Value} {base : Heap} (T : Txt K mg) {f : Addr} {fd : FuncData} (D : Fun K "middle" "middle" st_middle f fd) (hm : mg "middle" = some (.ref f)) (hb : Binds K fd ["row", "first", "last", "moment"] []) (k_check_row : Kn P w K mg base "check_row" 5 1 [] F_check_row) (k_check_stretch : Kn P w K mg base "check_stretch" 3 3 [] F_check_stretch) (k_check_moment : Kn P w K mg base "check_moment" 4 1 [] F_check_moment) (k_middle_in : Kn P w K mg base "middle_in" 6 4 [] F_middle_in)   : Kn P w K mg base "middle" 7 4 [] F_middle :=
  ⟨f, fd, ["row", "first", "last", "moment"], rfl, ok_middle T D k_check_row k_check_stretch k_check_moment k_middle_in, hm, D.kp, hb⟩
abbrev st_law_number : Stmt := top 36
theorem sc_law_number : FnScope ["_law_cell", "_law_at", "_law_whole_here", "_law_mixed", "_law_more"] ["_law_cell", "_law_at", "_law_whole_here"] (defScope st_law_number) := ⟨rfl, rfl, rfl, by decide +kernel, rfl, by decide +kernel, by decide +kernel⟩
theorem ok_law_number {P : Program} {w : World} {K : PySem.W.Frag} {mg : Str → Option Value} {base : Heap} (T : Txt K mg) {f : Addr} {fd : FuncData} (D : Fun K "_law_number" "_law_number" st_law_number f fd)    : FnOk P w K mg base (L2N.CX P w) 1 f fd ["_law_cell", "_law_at", "_law_whole_here"] (spI ⟨K, mg, none⟩ 3 F_law_number) := by
  refine fn_ok D sc_law_number rfl ?_
  rintro X W cdv A outer s H E rfl tk hr
  exact (ss_cons (s_if (t_ge (i_var 0) (i_pow i_int i_int)) (ss_one (s_ret (i_var 0))) ss_nil)
  (ss_cons (s_asg (i_mod (i_add (i_mul (i_add (i_var 0) (i_mul i_int (i_var 1))) i_int) (i_var 2)) i_int) (g_nm sc_law_number.nd rfl (by first | exact Or.inl rfl | exact Or.inr rfl)))
  (ss_cons (s_asg (i_mul (i_mul (i_var 3) (i_add (i_add (i_var 3) (i_mul i_int (i_var 1))) i_int)) (i_add (i_add (i_var 3) (i_var 0)) i_int)) (g_nm sc_law_number.nd rfl (by first | exact Or.inl rfl | exact Or.inr rfl)))
  (ss_one (s_ret (i_div (i_mul (i_var 4) (i_add (i_var 4) i_int)) i_int))))))
theorem mk_law_number {P : Program} {w : World} {K : PySem.W.Frag} {mg : Str → Option Value} {base : Heap} (T : Txt K mg) {f : Addr} {fd : FuncData} (D : Fun K "_law_number" "_law_number" st_law_number f fd) (hm : mg "_law_number" = some (.ref f)) (hb : Binds K fd ["_law_cell", "_law_at", "_law_whole_here"] [])    : Kn P w K mg base "_law_number" 1 3 [] F_law_number :=
  ⟨f, fd, ["_law_cell", "_law_at", "_law_whole_here"], rfl, ok_law_number T D , hm, D.kp, hb⟩
abbrev st_law_low : Stmt := top 37
theorem sc_law_low : FnScope ["_law_top", "_law_bottom", "_law_one", "_law_other"] ["_law_top", "_law_bottom"] (defScope st_law_low) := ⟨rfl, rfl, rfl, by decide +kernel, rfl, by decide +kernel, by decide +kernel⟩
theorem ok_law_low {P : Program} {w : World} {K : PySem.W.Frag} {mg : Str → Option Value} {base : Heap} (T : Txt K mg) {f : Addr} {fd : FuncData} (D : Fun K "_law_low" "_law_low" st_law_low f fd)    : FnOk P w K mg base (L2N.CX P w) 1 f fd ["_law_top", "_law_bottom"] (spI ⟨K, mg, none⟩ 2 F_law_low) := by
  refine fn_ok D sc_law_low rfl ?_
  rintro X W cdv A outer s H E rfl tk hr
  have hp := passes_of (X := cxOf (L2N.CX P w) P w K mg base ["_law_top", "_law_bottom", "_law_one", "_law_other"] "_law_low" (defScope st_law_low) f cdv A outer s H E) rfl
  exact (ss_cons (s_par2 rfl sc_law_low.nd (i := 2) (j := 3) rfl rfl (by decide) rfl rfl (a_cons (i_callB kAbs_bears call_abs rfl T.b_abs (by decide +kernel) (a_cons (i_var 0) a_nil)) (a_cons (i_var 1) a_nil)))
  (ss_cons (s_while hp (t_gt (i_var 3) i_int) (ss_one (s_par2 rfl sc_law_low.nd (i := 2) (j := 3) rfl rfl (by decide) rfl rfl (a_cons (i_var 3) (a_cons (i_mod (i_var 2) (i_var 3)) a_nil)))))
  (ss_one (s_ret (i_tup (a_cons (i_div (i_var 0) (i_var 2)) (a_cons (i_div (i_var 1) (i_var 2)) a_nil)))))))
theorem mk_law_low {P : Program} {w : World} {K : PySem.W.Frag} {mg : Str → Option Value} {base : Heap} (T : Txt K mg) {f : Addr} {fd : FuncData} (D : Fun K "_law_low" "_law_low" st_law_low f fd) (hm : mg "_law_low" = some (.ref f)) (hb : Binds K fd ["_law_top", "_law_bottom"] [])    : Kn P w K mg base "_law_low" 1 2 [] F_law_low :=
  ⟨f, fd, ["_law_top", "_law_bottom"], rfl, ok_law_low T D , hm, D.kp, hb⟩
abbrev st_law_sum : Stmt := top 38
theorem sc_law_sum : FnScope ["_law_one", "_law_other"] ["_law_one", "_law_other"] (defScope st_law_sum) := ⟨rfl, rfl, rfl, by decide +kernel, rfl, by decide +kernel, by decide +kernel⟩
theorem ok_law_sum {P : Program} {w : World} {K : PySem.W.Frag} {mg : Str → Option Value} {base : Heap} (T : Txt K mg) {f : Addr} {fd : FuncData} (D : Fun K "_law_sum" "_law_sum" st_law_sum f fd) (k_law_low : Kn P w K mg base "_law_low" 1 2 [] F_law_low)   : FnOk P w K mg base (L2N.CX P w) 2 f fd ["_law_one", "_law_other"] (spI ⟨K, mg, none⟩ 2 F_law_sum) := by
  refine fn_ok D sc_law_sum rfl ?_
  rintro X W cdv A outer s H E rfl tk hr
  exact (ss_one (s_ret (i_kn k_law_low tk hr (by decide) rfl (a_cons (i_add (i_mul (i_ix (i_var 0) i_int) (i_ix (i_var 1) i_int)) (i_mul (i_ix (i_var 1) i_int) (i_ix (i_var 0) i_int))) (a_cons (i_mul (i_ix (i_var 0) i_int) (i_ix (i_var 1) i_int)) a_nil)) (len_cons (len_cons len_nil)) rfl)))
theorem mk_law_sum {P : Program} {w : World} {K : PySem.W.Frag} {mg : Str → Option Value} {base : Heap} (T : Txt K mg) {f : Addr} {fd : FuncData} (D : Fun K "_law_sum" "_law_sum" st_law_sum f fd) (hm : mg "_law_sum" = some (.ref f)) (hb : Binds K fd ["_law_one", "_law_other"] []) (k_law_low : Kn P w K mg base "_law_low" 1 2 [] F_law_low)   : Kn P w K mg base "_law_sum" 2 2 [] F_law_sum :=
  ⟨f, fd, ["_law_one", "_law_other"], rfl, ok_law_sum T D k_law_low, hm, D.kp, hb⟩
abbrev st_law_by : Stmt := top 39
theorem sc_law_by : FnScope ["_law_one", "_law_other"] ["_law_one", "_law_other"] (defScope st_law_by) := ⟨rfl, rfl, rfl, by decide +kernel, rfl, by decide +kernel, by decide +kernel⟩
theorem ok_law_by {P : Program} {w : World} {K : PySem.W.Frag} {mg : Str → Option Value} {base : Heap} (T : Txt K mg) {f : Addr} {fd : FuncData} (D : Fun K "_law_by" "_law_by" st_law_by f fd) (k_law_low : Kn P w K mg base "_law_low" 1 2 [] F_law_low)   : FnOk P w K mg base (L2N.CX P w) 2 f fd ["_law_one", "_law_other"] (spI ⟨K, mg, none⟩ 2 F_law_by) := by
  refine fn_ok D sc_law_by rfl ?_
  rintro X W cdv A outer s H E rfl tk hr
  exact (ss_one (s_ret (i_kn k_law_low tk hr (by decide) rfl (a_cons (i_mul (i_ix (i_var 0) i_int) (i_ix (i_var 1) i_int)) (a_cons (i_mul (i_ix (i_var 0) i_int) (i_ix (i_var 1) i_int)) a_nil)) (len_cons (len_cons len_nil)) rfl)))
theorem mk_law_by {P : Program} {w : World} {K : PySem.W.Frag} {mg : Str → Option Value} {base : Heap} (T : Txt K mg) {f : Addr} {fd : FuncData} (D : Fun K "_law_by" "_law_by" st_law_by f fd) (hm : mg "_law_by" = some (.ref f)) (hb : Binds K fd ["_law_one", "_law_other"] []) (k_law_low : Kn P w K mg base "_law_low" 1 2 [] F_law_low)   : Kn P w K mg base "_law_by" 2 2 [] F_law_by :=
  ⟨f, fd, ["_law_one", "_law_other"], rfl, ok_law_by T D k_law_low, hm, D.kp, hb⟩
abbrev st_law_there : Stmt := top 40
theorem sc_law_there : FnScope ["_law_line", "_law_moment_here"] ["_law_line", "_law_moment_here"] (defScope st_law_there) := ⟨rfl, rfl, rfl, by decide +kernel, rfl, by decide +kernel, by decide +kernel⟩
theorem ok_law_there {P : Program} {w : World} {K : PySem.W.Frag} {mg : Str → Option Value} {base : Heap} (T : Txt K mg) {f : Addr} {fd : FuncData} (D : Fun K "_law_there" "_law_there" st_law_there f fd) (k_law_by : Kn P w K mg base "_law_by" 2 2 [] F_law_by) (k_law_sum : Kn P w K mg base "_law_sum" 2 2 [] F_law_sum)   : FnOk P w K mg base (L2N.CX P w) 3 f fd ["_law_line", "_law_moment_here"] (spI ⟨K, mg, none⟩ 2 F_law_there) := by
  refine fn_ok D sc_law_there rfl ?_
  rintro X W cdv A outer s H E rfl tk hr
  exact (ss_one (s_ret (i_kn k_law_sum tk hr (by decide) rfl (a_cons (i_ix (i_var 0) i_int) (a_cons (i_kn k_law_by tk hr (by decide) rfl (a_cons (i_ix (i_var 0) i_int) (a_cons (i_var 1) a_nil)) (len_cons (len_cons len_nil)) rfl) a_nil)) (len_cons (len_cons len_nil)) rfl)))
theorem mk_law_there {P : Program} {w : World} {K : PySem.W.Frag} {mg : Str → Option Value} {base : Heap} (T : Txt K mg) {f : Addr} {fd : FuncData} (D : Fun K "_law_there" "_law_there" st_law_there f fd) (hm : mg "_law_there" = some (.ref f)) (hb : Binds K fd ["_law_line", "_law_moment_here"] []) (k_law_by : Kn P w K mg base "_law_by" 2 2 [] F_law_by) (k_law_sum : Kn P w K mg base "_law_sum" 2 2 [] F_law_sum)   : Kn P w K mg base "_law_there" 3 2 [] F_law_there :=
  ⟨f, fd, ["_law_line", "_law_moment_here"], rfl, ok_law_there T D k_law_by k_law_sum, hm, D.kp, hb⟩
abbrev st_law_row : Stmt := top 41
theorem sc_law_row : FnScope ["_law_script", "_law_by_here", "_law_alike", "_law_most", "_law_cells", "_law_whole_here", "_law_many", "_law_bottom", "_law_gap", "_law_kind", "_law_last", "_law_found", "_law_blend", "_law_same", "_law_light", "_law_at", "_law_number_here", "_law_weight", "_law_top", "_law_speed"] ["_law_script", "_law_by_here", "_law_alike", "_law_most"] (defScope st_law_row) := ⟨rfl, rfl, rfl, by decide +kernel, rfl, by decide +kernel, by decide +kernel⟩
theorem ok_law_row {P : Program} {w : World} {K : PySem.W.Frag} {mg : Str → Option Value} {base : Heap} (T : Txt K mg) {f : Addr} {fd : FuncData} (D : FunD K "_law_row" "_law_row" (defArgs st_law_row) (defBody st_law_row) (defScope st_law_row) [.int 10] [] f fd) (k_law_number : Kn P w K mg base "_law_number" 1 3 [] F_law_number) (k_law_low : Kn P w K mg base "_law_low" 1 2 [] F_law_low)   : FnOk P w K mg base (L2N.CX P w) 2 f fd ["_law_script", "_law_by_here", "_law_alike", "_law_most"] (spI ⟨K, mg, none⟩ 4 F_law_row) := by
  refine fn_okD D sc_law_row rfl ?_
  rintro X W cdv A outer s H E rfl tk hr
  have hu := hr.units
  have hp := passes_of (X := cxOf (L2N.CX P w) P w K mg base ["_law_script", "_law_by_here", "_law_alike", "_law_most", "_law_cells", "_law_whole_here", "_law_many", "_law_bottom", "_law_gap", "_law_kind", "_law_last", "_law_found", "_law_blend", "_law_same", "_law_light", "_law_at", "_law_number_here", "_law_weight", "_law_top", "_law_speed"] "_law_row" (defScope st_law_row) f cdv A outer s H E) rfl
  exact (ss_cons (s_asg (i_if (t_neE (i_var 0) (i_lst a_nil) hu) (i_sl (i_var 0) p_none (p_some i_int)) (i_lst (a_cons i_int a_nil))) (g_nm sc_law_row.nd rfl (by first | exact Or.inl rfl | exact Or.inr rfl)))
  (ss_cons (s_asg (i_add (i_callB kSum_bears (cr_sum rfl) rfl T.b_sum (by decide +kernel) (a_cons (i_var 4) a_nil)) (i_var 1)) (g_nm sc_law_row.nd rfl (by first | exact Or.inl rfl | exact Or.inr rfl)))
  (ss_cons (s_asg (i_add i_int (i_mod (i_var 5) (i_var 3))) (g_nm sc_law_row.nd rfl (by first | exact Or.inl rfl | exact Or.inr rfl)))
  (ss_cons (s_asg (i_ix (i_tup (a_cons i_int (a_cons i_int (a_cons i_int (a_cons i_int (a_cons i_int (a_cons i_int a_nil))))))) (i_mod (i_div (i_var 5) i_int) i_int)) (g_nm sc_law_row.nd rfl (by first | exact Or.inl rfl | exact Or.inr rfl)))
  (ss_cons (s_asg (i_ix (i_tup (a_cons i_int (a_cons i_int (a_cons i_int a_nil)))) (i_mod (i_div (i_var 5) i_int) i_int)) (g_nm sc_law_row.nd rfl (by first | exact Or.inl rfl | exact Or.inr rfl)))
  (ss_cons (s_asg (i_mod (i_div (i_var 5) i_int) i_int) (g_nm sc_law_row.nd rfl (by first | exact Or.inl rfl | exact Or.inr rfl)))
  (ss_cons (s_asg (i_mul (i_neg (i_var 8)) (i_mod (i_div (i_var 5) i_int) i_int)) (g_nm sc_law_row.nd rfl (by first | exact Or.inl rfl | exact Or.inr rfl)))
  (ss_cons (s_par2 rfl sc_law_row.nd (i := 11) (j := 12) rfl rfl (by decide) rfl rfl (a_cons (i_lstN a_nil) (a_cons (i_kn k_law_number tk hr (by decide) rfl (a_cons (i_var 5) (a_cons (i_add (i_var 1) i_int) (a_cons i_int a_nil))) (len_cons (len_cons (len_cons len_nil))) rfl) a_nil)))
  (ss_cons (s_par2 rfl sc_law_row.nd (i := 13) (j := 14) rfl rfl (by decide) rfl rfl (a_cons (i_add i_int (i_mod (i_div (i_var 12) i_int) i_int)) (a_cons (i_ix (i_tup (a_cons i_int (a_cons i_int a_nil))) (i_mod (i_div (i_var 12) i_int) i_int)) a_nil)))
  (ss_cons (s_for hp rfl (it_range1 rfl T.b_range (i_var 6)) (g_nm sc_law_row.nd rfl (by first | exact Or.inl rfl | exact Or.inr rfl)) (ss_cons (s_asg (i_kn k_law_number tk hr (by decide) rfl (a_cons (i_ix (i_var 4) (i_mod (i_add (i_var 15) (i_var 1)) (i_callB kLen_bears call_len_seq rfl T.b_len PySem.boot_len (a_cons (i_var 4) a_nil)))) (a_cons (i_add (i_var 15) (i_mul i_int (i_var 1))) (a_cons (i_var 5) a_nil))) (len_cons (len_cons (len_cons len_nil))) rfl) (g_nm sc_law_row.nd rfl (by first | exact Or.inl rfl | exact Or.inr rfl)))
  (ss_cons (s_asg (i_add (i_add (i_var 10) i_int) (i_mod (i_div (i_var 16) i_int) (i_var 8))) (g_nm sc_law_row.nd rfl (by first | exact Or.inl rfl | exact Or.inr rfl)))
  (ss_cons (s_asg (i_if (t_tru (i_var 2)) (i_var 13) (i_add i_int (i_mod (i_div (i_var 16) i_int) (i_var 14)))) (g_nm sc_law_row.nd rfl (by first | exact Or.inl rfl | exact Or.inr rfl)))
  (ss_cons (s_asg (i_sub (i_mod (i_div (i_var 16) i_int) (i_ix (i_tup (a_cons i_int (a_cons i_int (a_cons i_int (a_cons i_int a_nil))))) (i_var 9))) (i_ix (i_tup (a_cons i_int (a_cons i_int (a_cons i_int (a_cons i_int a_nil))))) (i_var 9))) (g_nm sc_law_row.nd rfl (by first | exact Or.inl rfl | exact Or.inr rfl)))
  (ss_cons (s_asg (i_kn k_law_low tk hr (by decide) rfl (a_cons (i_var 18) (a_cons (i_add i_int (i_mod (i_div (i_var 16) i_int) (i_ix (i_tup (a_cons i_int (a_cons i_int (a_cons i_int (a_cons i_int a_nil))))) (i_var 9)))) a_nil)) (len_cons (len_cons len_nil)) rfl) (g_nm sc_law_row.nd rfl (by first | exact Or.inl rfl | exact Or.inr rfl)))
  (ss_one (s_expr (i_append (i_var 11) (i_tup (a_cons (i_var 17) (a_cons (i_kn k_law_low tk hr (by decide) rfl (a_cons (i_var 10) (a_cons (i_var 7) a_nil)) (len_cons (len_cons len_nil)) rfl) (a_cons (i_var 19) a_nil)))))))))))))
  (ss_one (s_ret (i_var 11)))))))))))))
theorem mk_law_row {P : Program} {w : World} {K : PySem.W.Frag} {mg : Str → Option Value} {base : Heap} (T : Txt K mg) {f : Addr} {fd : FuncData} (D : FunD K "_law_row" "_law_row" (defArgs st_law_row) (defBody st_law_row) (defScope st_law_row) [.int 10] [] f fd) (hm : mg "_law_row" = some (.ref f)) (hb : Binds K fd ["_law_script", "_law_by_here", "_law_alike", "_law_most"] []) (k_law_number : Kn P w K mg base "_law_number" 1 3 [] F_law_number) (k_law_low : Kn P w K mg base "_law_low" 1 2 [] F_law_low)   : Kn P w K mg base "_law_row" 2 4 [] F_law_row :=
  ⟨f, fd, ["_law_script", "_law_by_here", "_law_alike", "_law_most"], rfl, ok_law_row T D k_law_number k_law_low, hm, D.kp, hb⟩
theorem mk_law_row_d {P : Program} {w : World} {K : PySem.W.Frag} {mg : Str → Option Value} {base : Heap} (T : Txt K mg) {f : Addr} {fd : FuncData} (D : FunD K "_law_row" "_law_row" (defArgs st_law_row) (defBody st_law_row) (defScope st_law_row) [.int 10] [] f fd) (hm : mg "_law_row" = some (.ref f)) (hb : ∃ ds, Vals [V.int 10] ds ∧ Binds K fd ["_law_script", "_law_by_here", "_law_alike", "_law_most"] ds) (k_law_number : Kn P w K mg base "_law_number" 1 3 [] F_law_number) (k_law_low : Kn P w K mg base "_law_low" 1 2 [] F_law_low)   : KnD P w K mg base "_law_row" 2 4 [.int 10] F_law_row := by
  obtain ⟨ds, hv, hb⟩ := hb
  exact ⟨ds, hv, f, fd, ["_law_script", "_law_by_here", "_law_alike", "_law_most"], rfl, ok_law_row T D k_law_number k_law_low, hm, D.kp, hb⟩
abbrev st_law_moment : Stmt := top 42
theorem sc_law_moment : FnScope ["_law_number_here"] ["_law_number_here"] (defScope st_law_moment) := ⟨rfl, rfl, rfl, by decide +kernel, rfl, by decide +kernel, by decide +kernel⟩
theorem ok_law_moment {P : Program} {w : World} {K : PySem.W.Frag} {mg : Str → Option Value} {base : Heap} (T : Txt K mg) {f : Addr} {fd : FuncData} (D : Fun K "_law_moment" "_law_moment" st_law_moment f fd) (k_law_low : Kn P w K mg base "_law_low" 1 2 [] F_law_low)   : FnOk P w K mg base (L2N.CX P w) 2 f fd ["_law_number_here"] (spI ⟨K, mg, none⟩ 1 F_law_moment) := by
  refine fn_ok D sc_law_moment rfl ?_
  rintro X W cdv A outer s H E rfl tk hr
  exact (ss_one (s_ret (i_kn k_law_low tk hr (by decide) rfl (a_cons (i_mod (i_var 0) (i_ix (i_tup (a_cons i_int (a_cons i_int (a_cons i_int (a_cons (i_pow i_int i_int) a_nil))))) (i_mod (i_div (i_var 0) i_int) i_int))) (a_cons (i_add i_int (i_mod (i_div (i_var 0) i_int) (i_ix (i_tup (a_cons i_int (a_cons i_int (a_cons i_int a_nil)))) (i_mod (i_div (i_var 0) i_int) i_int)))) a_nil)) (len_cons (len_cons len_nil)) rfl)))
theorem mk_law_moment {P : Program} {w : World} {K : PySem.W.Frag} {mg : Str → Option Value} {base : Heap} (T : Txt K mg) {f : Addr} {fd : FuncData} (D : Fun K "_law_moment" "_law_moment" st_law_moment f fd) (hm : mg "_law_moment" = some (.ref f)) (hb : Binds K fd ["_law_number_here"] []) (k_law_low : Kn P w K mg base "_law_low" 1 2 [] F_law_low)   : Kn P w K mg base "_law_moment" 2 1 [] F_law_moment :=
  ⟨f, fd, ["_law_number_here"], rfl, ok_law_moment T D k_law_low, hm, D.kp, hb⟩
abbrev st_law_whole : Stmt := top 43
theorem sc_law_whole : FnScope ["_law_found"] ["_law_found"] (defScope st_law_whole) := ⟨rfl, rfl, rfl, by decide +kernel, rfl, by decide +kernel, by decide +kernel⟩
theorem ok_law_whole {P : Program} {w : World} {K : PySem.W.Frag} {mg : Str → Option Value} {base : Heap} (T : Txt K mg) {f : Addr} {fd : FuncData} (D : Fun K "_law_whole" "_law_whole" st_law_whole f fd)    : FnOk P w K mg base (L2N.CX P w) 1 f fd ["_law_found"] (spI ⟨K, mg, none⟩ 1 F_law_whole) := by
  refine fn_ok D sc_law_whole rfl ?_
  rintro X W cdv A outer s H E rfl tk hr
  exact (ss_one (s_ret (i_and (i_callB kIsi_bears call_isi rfl T.b_isinstance (by decide +kernel) (a_cons (i_var 0) (a_cons (i_ty .int rfl T.b_int (by decide +kernel)) a_nil))) (i_one (i_not (i_callB kIsi_bears call_isi rfl T.b_isinstance (by decide +kernel) (a_cons (i_var 0) (a_cons (i_ty .bool rfl T.b_bool (by decide +kernel)) a_nil))))))))
theorem mk_law_whole {P : Program} {w : World} {K : PySem.W.Frag} {mg : Str → Option Value} {base : Heap} (T : Txt K mg) {f : Addr} {fd : FuncData} (D : Fun K "_law_whole" "_law_whole" st_law_whole f fd) (hm : mg "_law_whole" = some (.ref f)) (hb : Binds K fd ["_law_found"] [])    : Kn P w K mg base "_law_whole" 1 1 [] F_law_whole :=
  ⟨f, fd, ["_law_found"], rfl, ok_law_whole T D , hm, D.kp, hb⟩
abbrev st_law_is_share : Stmt := top 44
theorem sc_law_is_share : FnScope ["_law_found"] ["_law_found"] (defScope st_law_is_share) := ⟨rfl, rfl, rfl, by decide +kernel, rfl, by decide +kernel, by decide +kernel⟩
theorem ok_law_is_share {P : Program} {w : World} {K : PySem.W.Frag} {mg : Str → Option Value} {base : Heap} (T : Txt K mg) {f : Addr} {fd : FuncData} (D : Fun K "_law_is_share" "_law_is_share" st_law_is_share f fd) (k_law_whole : Kn P w K mg base "_law_whole" 1 1 [] F_law_whole) (k_law_low : Kn P w K mg base "_law_low" 1 2 [] F_law_low)   : FnOk P w K mg base (L2N.CX P w) 2 f fd ["_law_found"] (spI ⟨K, mg, none⟩ 1 F_law_is_share) := by
  refine fn_ok D sc_law_is_share rfl ?_
  rintro X W cdv A outer s H E rfl tk hr
  have hu := hr.units
  exact (ss_cons (s_if (PW.pt (w_or (t_not (t_tru (i_callB kIsi_bears call_isi rfl T.b_isinstance (by decide +kernel) (a_cons (i_var 0) (a_cons (i_ty .tuple rfl T.b_tuple (by decide +kernel)) a_nil))))) (w_or (t_ne (i_callB kLen_bears call_len_seq rfl T.b_len PySem.boot_len (a_cons (i_var 0) a_nil)) i_int hu) (w_or (t_not (t_tru (i_kn k_law_whole tk hr (by decide) rfl (a_cons (i_ix (i_var 0) i_int) a_nil) (len_cons len_nil) rfl))) (w_one (t_not (t_tru (i_kn k_law_whole tk hr (by decide) rfl (a_cons (i_ix (i_var 0) i_int) a_nil) (len_cons len_nil) rfl)))))))) (ss_one (s_ret i_bl)) ss_nil)
  (ss_one (s_ret (i_and (i_gt (i_ix (i_var 0) i_int) i_int) (i_one (i_eq (i_kn k_law_low tk hr (by decide) rfl (a_cons (i_ix (i_var 0) i_int) (a_cons (i_ix (i_var 0) i_int) a_nil)) (len_cons (len_cons len_nil)) rfl) (i_var 0) hu))))))
theorem mk_law_is_share {P : Program} {w : World} {K : PySem.W.Frag} {mg : Str → Option Value} {base : Heap} (T : Txt K mg) {f : Addr} {fd : FuncData} (D : Fun K "_law_is_share" "_law_is_share" st_law_is_share f fd) (hm : mg "_law_is_share" = some (.ref f)) (hb : Binds K fd ["_law_found"] []) (k_law_whole : Kn P w K mg base "_law_whole" 1 1 [] F_law_whole) (k_law_low : Kn P w K mg base "_law_low" 1 2 [] F_law_low)   : Kn P w K mg base "_law_is_share" 2 1 [] F_law_is_share :=
  ⟨f, fd, ["_law_found"], rfl, ok_law_is_share T D k_law_whole k_law_low, hm, D.kp, hb⟩
abbrev st_law_stretch_right : Stmt := top 45
theorem sc_law_stretch_right : FnScope ["_law_row_here", "_law_first", "_law_last", "_law_moment_here", "_law_weights", "_law_drive", "_law_lever", "_law_there_here", "_law_weight", "_law_place", "_law_speed", "_law_whole_here", "_law_found", "_law_begin", "_law_bead", "_law_one"] ["_law_row_here", "_law_first", "_law_last", "_law_moment_here"] (defScope st_law_stretch_right) := ⟨rfl, rfl, rfl, by decide +kernel, rfl, by decide +kernel, by decide +kernel⟩
theorem ok_law_stretch_right {P : Program} {w : World} {K : PySem.W.Frag} {mg : Str → Option Value} {base : Heap} (T : Txt K mg) {f : Addr} {fd : FuncData} (D : Fun K "_law_stretch_right" "_law_stretch_right" st_law_stretch_right f fd) (k_law_by : Kn P w K mg base "_law_by" 2 2 [] F_law_by) (k_law_sum : Kn P w K mg base "_law_sum" 2 2 [] F_law_sum) (k_law_there : Kn P w K mg base "_law_there" 3 2 [] F_law_there) (k_weight_of : Kn P w K mg base "weight_of" 6 3 [] F_weight_of) (k_middle : Kn P w K mg base "middle" 7 4 [] F_middle) (k_drive_of : Kn P w K mg base "drive_of" 6 3 [] F_drive_of) (k_law_is_share : Kn P w K mg base "_law_is_share" 2 1 [] F_law_is_share) (k_law_whole : Kn P w K mg base "_law_whole" 1 1 [] F_law_whole)   : FnOk P w K mg base (L2N.CX P w) 8 f fd ["_law_row_here", "_law_first", "_law_last", "_law_moment_here"] (spI ⟨K, mg, none⟩ 4 F_law_stretch_right) := by
  refine fn_ok D sc_law_stretch_right rfl ?_
  rintro X W cdv A outer s H E rfl tk hr
  have hu := hr.units
  have hp := passes_of (X := cxOf (L2N.CX P w) P w K mg base ["_law_row_here", "_law_first", "_law_last", "_law_moment_here", "_law_weights", "_law_drive", "_law_lever", "_law_there_here", "_law_weight", "_law_place", "_law_speed", "_law_whole_here", "_law_found", "_law_begin", "_law_bead", "_law_one"] "_law_stretch_right" (defScope st_law_stretch_right) f cdv A outer s H E) rfl
  exact (ss_cons (s_lc (own := [("_law_bead", 14)]) rfl sc_law_stretch_right.nd (i := 4) rfl rfl (sw_true rfl rfl rfl (by decide +kernel)) (it_seq (i_sl (i_var 0) (p_some (i_var 1)) (p_some (i_add (i_var 2) i_int)))) (blkOk_by (own := [("_law_bead", 14)]) (N := ["_law_row_here", "_law_first", "_law_last", "_law_moment_here", "_law_weights", "_law_drive", "_law_lever", "_law_there_here", "_law_weight", "_law_place", "_law_speed", "_law_whole_here", "_law_found", "_law_begin", "_law_bead", "_law_one"]) (sc := defScope st_law_stretch_right) (by decide +kernel)) (by decide) (fun _ _ _ _ _ => (g_nm sc_law_stretch_right.nd rfl (by first | exact Or.inl rfl | exact Or.inr rfl))) (fun _ _ _ _ _ => ts_nil) (fun _ _ _ _ _ => (i_ix (i_var 14) i_int)))
  (ss_cons (s_asg (i_tup (a_cons (i_tup (a_cons i_int (a_cons i_int a_nil))) (a_cons (i_tup (a_cons i_int (a_cons i_int a_nil))) (a_cons (i_tup (a_cons i_int (a_cons i_int a_nil))) a_nil)))) (g_tp rfl (gs_cons (g_nm sc_law_stretch_right.nd rfl (by first | exact Or.inl rfl | exact Or.inr rfl)) (gs_cons (g_nm sc_law_stretch_right.nd rfl (by first | exact Or.inl rfl | exact Or.inr rfl)) (gs_cons (g_nm sc_law_stretch_right.nd rfl (by first | exact Or.inl rfl | exact Or.inr rfl)) gs_nil)))))
  (ss_cons (s_for hp rfl (it_seq (i_sl (i_var 0) (p_some (i_var 1)) (p_some (i_add (i_var 2) i_int)))) (g_tp rfl (gs_cons (g_nm sc_law_stretch_right.nd rfl (by first | exact Or.inl rfl | exact Or.inr rfl)) (gs_cons (g_nm sc_law_stretch_right.nd rfl (by first | exact Or.inl rfl | exact Or.inr rfl)) (gs_cons (g_nm sc_law_stretch_right.nd rfl (by first | exact Or.inl rfl | exact Or.inr rfl)) gs_nil)))) (ss_cons (s_asg (i_kn k_law_sum tk hr (by decide) rfl (a_cons (i_var 5) (a_cons (i_kn k_law_by tk hr (by decide) rfl (a_cons (i_tup (a_cons (i_var 8) (a_cons i_int a_nil))) (a_cons (i_var 10) a_nil)) (len_cons (len_cons len_nil)) rfl) a_nil)) (len_cons (len_cons len_nil)) rfl) (g_nm sc_law_stretch_right.nd rfl (by first | exact Or.inl rfl | exact Or.inr rfl)))
  (ss_cons (s_asg (i_kn k_law_sum tk hr (by decide) rfl (a_cons (i_var 6) (a_cons (i_kn k_law_by tk hr (by decide) rfl (a_cons (i_tup (a_cons (i_var 8) (a_cons i_int a_nil))) (a_cons (i_var 9) a_nil)) (len_cons (len_cons len_nil)) rfl) a_nil)) (len_cons (len_cons len_nil)) rfl) (g_nm sc_law_stretch_right.nd rfl (by first | exact Or.inl rfl | exact Or.inr rfl)))
  (ss_one (s_asg (i_kn k_law_sum tk hr (by decide) rfl (a_cons (i_var 7) (a_cons (i_kn k_law_by tk hr (by decide) rfl (a_cons (i_tup (a_cons (i_var 8) (a_cons i_int a_nil))) (a_cons (i_kn k_law_there tk hr (by decide) rfl (a_cons (i_tup (a_cons (i_var 9) (a_cons (i_var 10) a_nil))) (a_cons (i_var 3) a_nil)) (len_cons (len_cons len_nil)) rfl) a_nil)) (len_cons (len_cons len_nil)) rfl) a_nil)) (len_cons (len_cons len_nil)) rfl) (g_nm sc_law_stretch_right.nd rfl (by first | exact Or.inl rfl | exact Or.inr rfl)))))))
  (ss_cons (s_asg (i_kn k_weight_of tk hr (by decide) rfl (a_cons (i_var 0) (a_cons (i_var 1) (a_cons (i_var 2) a_nil))) (len_cons (len_cons (len_cons len_nil))) rfl) (g_nm sc_law_stretch_right.nd rfl (by first | exact Or.inl rfl | exact Or.inr rfl)))
  (ss_cons (s_asg (i_lst (a_cons (i_kn k_drive_of tk hr (by decide) rfl (a_cons (i_var 0) (a_cons (i_var 1) (a_cons (i_var 2) a_nil))) (len_cons (len_cons (len_cons len_nil))) rfl) (a_cons (i_kn k_middle tk hr (by decide) rfl (a_cons (i_var 0) (a_cons (i_var 1) (a_cons (i_var 2) (a_cons (i_var 3) a_nil)))) (len_cons (len_cons (len_cons (len_cons len_nil)))) rfl) a_nil))) (g_nm sc_law_stretch_right.nd rfl (by first | exact Or.inl rfl | exact Or.inr rfl)))
  (ss_cons (s_if (PW.pt (w_or (t_not (t_tru (i_kn k_law_whole tk hr (by decide) rfl (a_cons (i_var 11) a_nil) (len_cons len_nil) rfl))) (w_or (t_ne (i_var 11) (i_callB kSum_bears (cr_sum rfl) rfl T.b_sum (by decide +kernel) (a_cons (i_var 4) a_nil)) hu) (w_one (t_not (t_tru (i_callB kAll_bears (cr_all rfl) rfl T.b_all (by decide +kernel) (a_cons (i_lc (own := [("_law_one", 15)]) rfl sc_law_stretch_right.nd (it_seq (i_var 12)) (blkOk_by (own := [("_law_one", 15)]) (N := ["_law_row_here", "_law_first", "_law_last", "_law_moment_here", "_law_weights", "_law_drive", "_law_lever", "_law_there_here", "_law_weight", "_law_place", "_law_speed", "_law_whole_here", "_law_found", "_law_begin", "_law_bead", "_law_one"]) (sc := defScope st_law_stretch_right) (by decide +kernel)) (by decide) (fun _ _ _ _ _ => (g_nm sc_law_stretch_right.nd rfl (by first | exact Or.inl rfl | exact Or.inr rfl))) (fun _ _ _ _ _ => ts_nil) (fun _ _ _ _ _ => by have tk := @takesN; exact (i_kn k_law_is_share tk hr (by decide) rfl (a_cons (i_var 15) a_nil) (len_cons len_nil) rfl))) a_nil)))))))) (ss_one (s_ret i_bl)) ss_nil)
  (ss_cons (s_if (PW.pt (w_or (t_ne (i_ix (i_var 12) i_int) (i_var 5) hu) (w_one (t_ne (i_kn k_law_by tk hr (by decide) rfl (a_cons (i_tup (a_cons (i_var 11) (a_cons i_int a_nil))) (a_cons (i_ix (i_var 12) i_int) a_nil)) (len_cons (len_cons len_nil)) rfl) (i_var 7) hu)))) (ss_one (s_ret i_bl)) ss_nil)
  (ss_cons (s_asg (i_kn k_law_by tk hr (by decide) rfl (a_cons (i_tup (a_cons (i_var 11) (a_cons i_int a_nil))) (a_cons (i_kn k_middle tk hr (by decide) rfl (a_cons (i_var 0) (a_cons (i_var 1) (a_cons (i_var 2) (a_cons (i_tup (a_cons i_int (a_cons i_int a_nil))) a_nil)))) (len_cons (len_cons (len_cons (len_cons len_nil)))) rfl) a_nil)) (len_cons (len_cons len_nil)) rfl) (g_nm sc_law_stretch_right.nd rfl (by first | exact Or.inl rfl | exact Or.inr rfl)))
  (ss_one (s_ret (i_and (i_eq (i_var 13) (i_var 6) hu) (i_one (i_eq (i_kn k_law_sum tk hr (by decide) rfl (a_cons (i_var 13) (a_cons (i_kn k_law_by tk hr (by decide) rfl (a_cons (i_var 5) (a_cons (i_var 3) a_nil)) (len_cons (len_cons len_nil)) rfl) a_nil)) (len_cons (len_cons len_nil)) rfl) (i_var 7) hu)))))))))))))
theorem mk_law_stretch_right {P : Program} {w : World} {K : PySem.W.Frag} {mg : Str → Option Value} {base : Heap} (T : Txt K mg) {f : Addr} {fd : FuncData} (D : Fun K "_law_stretch_right" "_law_stretch_right" st_law_stretch_right f fd) (hm : mg "_law_stretch_right" = some (.ref f)) (hb : Binds K fd ["_law_row_here", "_law_first", "_law_last", "_law_moment_here"] []) (k_law_by : Kn P w K mg base "_law_by" 2 2 [] F_law_by) (k_law_sum : Kn P w K mg base "_law_sum" 2 2 [] F_law_sum) (k_law_there : Kn P w K mg base "_law_there" 3 2 [] F_law_there) (k_weight_of : Kn P w K mg base "weight_of" 6 3 [] F_weight_of) (k_middle : Kn P w K mg base "middle" 7 4 [] F_middle) (k_drive_of : Kn P w K mg base "drive_of" 6 3 [] F_drive_of) (k_law_is_share : Kn P w K mg base "_law_is_share" 2 1 [] F_law_is_share) (k_law_whole : Kn P w K mg base "_law_whole" 1 1 [] F_law_whole)   : Kn P w K mg base "_law_stretch_right" 8 4 [] F_law_stretch_right :=
  ⟨f, fd, ["_law_row_here", "_law_first", "_law_last", "_law_moment_here"], rfl, ok_law_stretch_right T D k_law_by k_law_sum k_law_there k_weight_of k_middle k_drive_of k_law_is_share k_law_whole, hm, D.kp, hb⟩
abbrev st_law : Stmt := top 46
theorem sc_law : FnScope ["_law_script", "_law_whole_here", "_law_row_here", "_law_kept", "_law_at", "_law_cell", "_law_number_here", "_law_first", "_law_last", "_law_moment_here", "_law_found", "_law_cut", "_law_parts", "_law_levers", "_law_both", "_law_two", "_law_a", "_law_b"] ["_law_script"] (defScope st_law) := ⟨rfl, rfl, rfl, by decide +kernel, rfl, by decide +kernel, by decide +kernel⟩
abbrev S_law : SI :=
  (sSeq (sAsg (.nm 1) (eB kSum (aCons (eSl (eVar 0) pNone (pSome (eC (.int 63)))) aNil)))
  (sSeq (sAsg (.nm 2) (eCallP F_law_row [.int 10] (aCons (eVar 0) (aCons (eC (.int 0)) (aCons (eC (.bl false)) aNil)))))
  (sSeq (sAsg (.nm 3) (eB kList (aCons (eVar 2) aNil)))
  (sSeq (sFor (iEnum' (eBin kAdd (eLst (aCons (eVar 1) aNil)) (eSl (eVar 0) pNone (pSome (eC (.int 10)))))) (.tp [(.nm 4), (.nm 5)]) (sSeq (sAsg (.nm 6) (eCallP F_law_number [] (aCons (eVar 5) (aCons (eBin kAdd (eVar 4) (eC (.int 3))) (aCons (eVar 1) aNil)))))
  (sSeq (sAsg (.nm 7) (eBin kMod (eVar 6) (eB kLen (aCons (eVar 2) aNil))))
  (sSeq (sAsg (.nm 8) (eBin kAdd (eVar 7) (eBin kMod (eBin kDiv (eVar 6) (eC (.int 11))) (eBin kSub (eB kLen (aCons (eVar 2) aNil)) (eVar 7)))))
  (sSeq (sAsg (.nm 9) (eCallP F_law_moment [] (aCons (eBin kDiv (eVar 6) (eC (.int 121))) aNil)))
  (sSeq (sIf (bOr (bNot (bTru (eCallP F_law_stretch_right [] (aCons (eVar 2) (aCons (eVar 7) (aCons (eVar 8) (aCons (eVar 9) aNil))))))) (bOf (eBin kNe (eVar 2) (eVar 3)))) (sRet (eC (.bl false))) sPass)
  (sSeq (sAsg (.nm 10) (eCallP F_straight [] (aCons (eVar 2) (aCons (eVar 8) (aCons (eVar 9) aNil)))))
  (sSeq (sIf (bOr (bNot (bTru (eCallP F_law_is_share [] (aCons (eVar 10) aNil)))) (bOf (eBin kNe (eVar 10) (eCallP F_law_there [] (aCons (eSl (eBin kIx (eVar 2) (eVar 8)) (pSome (eC (.int 1))) pNone) (aCons (eVar 9) aNil)))))) (sRet (eC (.bl false))) sPass)
  (sIf (bOf (eBin kLt (eVar 7) (eVar 8))) (sSeq (sAsg (.nm 11) (eBin kAdd (eVar 7) (eBin kMod (eBin kDiv (eVar 6) (eC (.int 7))) (eBin kSub (eVar 8) (eVar 7)))))
  (sSeq (sAsg (.nm 12) (eLst (aCons (eTup (aCons (eVar 7) (aCons (eVar 11) aNil))) (aCons (eTup (aCons (eBin kAdd (eVar 11) (eC (.int 1))) (aCons (eVar 8) aNil))) aNil))))
  (sSeq (sAsg (.nm 13) (eComp (iSeq (eVar 12)) (.tp [(.nm 16), (.nm 17)]) [16, 17] bYes (eCallP F_law_by [] (aCons (eTup (aCons (eCallP F_weight_of [] (aCons (eVar 2) (aCons (eVar 16) (aCons (eVar 17) aNil)))) (aCons (eC (.int 1)) aNil))) (aCons (eCallP F_middle [] (aCons (eVar 2) (aCons (eVar 16) (aCons (eVar 17) (aCons (eVar 9) aNil))))) aNil)))))
  (sSeq (sAsg (.nm 14) (eCallP F_law_by [] (aCons (eTup (aCons (eCallP F_weight_of [] (aCons (eVar 2) (aCons (eVar 7) (aCons (eVar 8) aNil)))) (aCons (eC (.int 1)) aNil))) (aCons (eCallP F_middle [] (aCons (eVar 2) (aCons (eVar 7) (aCons (eVar 8) (aCons (eVar 9) aNil))))) aNil))))
  (sIf (bOf (eBin kNe (eCallP F_law_sum [] (aCons (eBin kIx (eVar 13) (eC (.int 0))) (aCons (eBin kIx (eVar 13) (eC (.int 1))) aNil))) (eVar 14))) (sRet (eC (.bl false))) sPass))))) sPass)))))))))
  (sSeq (sAsg (.nm 15) (eLst (aCons (eTup (aCons (eC (.int 1)) (aCons (eTup (aCons (eC (.int 0)) (aCons (eC (.int 1)) aNil))) (aCons (eTup (aCons (eC (.int 1)) (aCons (eC (.int 1)) aNil))) aNil)))) (aCons (eTup (aCons (eC (.int 3)) (aCons (eTup (aCons (eC (.int 2)) (aCons (eC (.int 1)) aNil))) (aCons (eTup (aCons (eUn kNeg (eC (.int 1))) (aCons (eC (.int 2)) aNil))) aNil)))) aNil))))
  (sSeq (sIf (bOr (bOf (eBin kNe (eCallP F_weight_of [] (aCons (eVar 15) (aCons (eC (.int 0)) (aCons (eC (.int 1)) aNil)))) (eC (.int 4)))) (bOr (bOf (eBin kNe (eCallP F_drive_of [] (aCons (eVar 15) (aCons (eC (.int 0)) (aCons (eC (.int 1)) aNil)))) (eTup (aCons (eUn kNeg (eC (.int 1))) (aCons (eC (.int 2)) aNil))))) (bOf (eBin kNe (eCallP F_straight [] (aCons (eVar 15) (aCons (eC (.int 1)) (aCons (eTup (aCons (eC (.int 2)) (aCons (eC (.int 1)) aNil))) aNil)))) (eTup (aCons (eC (.int 1)) (aCons (eC (.int 1)) aNil))))))) (sRet (eC (.bl false))) sPass)
  (sRet (eAnd (eBin kEq (eCallP F_middle [] (aCons (eVar 15) (aCons (eC (.int 0)) (aCons (eC (.int 1)) (aCons (eTup (aCons (eC (.int 0)) (aCons (eC (.int 1)) aNil))) aNil))))) (eTup (aCons (eC (.int 3)) (aCons (eC (.int 2)) aNil)))) (eBin kEq (eCallP F_middle [] (aCons (eVar 15) (aCons (eC (.int 0)) (aCons (eC (.int 1)) (aCons (eTup (aCons (eC (.int 2)) (aCons (eC (.int 1)) aNil))) aNil))))) (eTup (aCons (eC (.int 5)) (aCons (eC (.int 4)) aNil))))))))))))
def F_law : FI := toF 18 S_law
theorem ok_law {P : Program} {w : World} {K : PySem.W.Frag} {mg : Str → Option Value} {base : Heap} (T : Txt K mg) {f : Addr} {fd : FuncData} (D : Fun K "law" "law" st_law f fd) (k_law_number : Kn P w K mg base "_law_number" 1 3 [] F_law_number) (k_law_moment : Kn P w K mg base "_law_moment" 2 1 [] F_law_moment) (k_law_stretch_right : Kn P w K mg base "_law_stretch_right" 8 4 [] F_law_stretch_right) (k_straight : Kn P w K mg base "straight" 7 3 [] F_straight) (k_law_there : Kn P w K mg base "_law_there" 3 2 [] F_law_there) (k_law_is_share : Kn P w K mg base "_law_is_share" 2 1 [] F_law_is_share) (k_middle : Kn P w K mg base "middle" 7 4 [] F_middle) (k_weight_of : Kn P w K mg base "weight_of" 6 3 [] F_weight_of) (k_law_by : Kn P w K mg base "_law_by" 2 2 [] F_law_by) (k_law_sum : Kn P w K mg base "_law_sum" 2 2 [] F_law_sum) (k_drive_of : Kn P w K mg base "drive_of" 6 3 [] F_drive_of)  (k_law_row_d : KnD P w K mg base "_law_row" 2 4 [.int 10] F_law_row) : FnOk P w K mg base (L2N.CX P w) 9 f fd ["_law_script"] (spI ⟨K, mg, none⟩ 1 F_law) := by
  refine fn_ok D sc_law rfl ?_
  rintro X W cdv A outer s H E rfl tk hr
  have hu := hr.units
  have hp := passes_of (X := cxOf (L2N.CX P w) P w K mg base ["_law_script", "_law_whole_here", "_law_row_here", "_law_kept", "_law_at", "_law_cell", "_law_number_here", "_law_first", "_law_last", "_law_moment_here", "_law_found", "_law_cut", "_law_parts", "_law_levers", "_law_both", "_law_two", "_law_a", "_law_b"] "law" (defScope st_law) f cdv A outer s H E) rfl
  exact (ss_cons (s_asg (i_callB kSum_bears (cr_sum rfl) rfl T.b_sum (by decide +kernel) (a_cons (i_sl (i_var 0) p_none (p_some i_int)) a_nil)) (g_nm sc_law.nd rfl (by first | exact Or.inl rfl | exact Or.inr rfl)))
  (ss_cons (s_asg (i_knX k_law_row_d (dv_int 10) tk hr (by decide) rfl (a_cons (i_var 0) (a_cons i_int (a_cons i_bl a_nil))) (len_cons (len_cons (len_cons len_nil))) rfl) (g_nm sc_law.nd rfl (by first | exact Or.inl rfl | exact Or.inr rfl)))
  (ss_cons (s_asg (i_callT kList_bears call_list_of rfl T.b_list (by decide +kernel) (a_cons (i_var 2) a_nil)) (g_nm sc_law.nd rfl (by first | exact Or.inl rfl | exact Or.inr rfl)))
  (ss_cons (s_for hp rfl (it_enum rfl T.b_enumerate (i_add (i_lst (a_cons (i_var 1) a_nil)) (i_sl (i_var 0) p_none (p_some i_int)))) (g_tp rfl (gs_cons (g_nm sc_law.nd rfl (by first | exact Or.inl rfl | exact Or.inr rfl)) (gs_cons (g_nm sc_law.nd rfl (by first | exact Or.inl rfl | exact Or.inr rfl)) gs_nil))) (ss_cons (s_asg (i_kn k_law_number tk hr (by decide) rfl (a_cons (i_var 5) (a_cons (i_add (i_var 4) i_int) (a_cons (i_var 1) a_nil))) (len_cons (len_cons (len_cons len_nil))) rfl) (g_nm sc_law.nd rfl (by first | exact Or.inl rfl | exact Or.inr rfl)))
  (ss_cons (s_asg (i_mod (i_var 6) (i_callB kLen_bears call_len_seq rfl T.b_len PySem.boot_len (a_cons (i_var 2) a_nil))) (g_nm sc_law.nd rfl (by first | exact Or.inl rfl | exact Or.inr rfl)))
  (ss_cons (s_asg (i_add (i_var 7) (i_mod (i_div (i_var 6) i_int) (i_sub (i_callB kLen_bears call_len_seq rfl T.b_len PySem.boot_len (a_cons (i_var 2) a_nil)) (i_var 7)))) (g_nm sc_law.nd rfl (by first | exact Or.inl rfl | exact Or.inr rfl)))
  (ss_cons (s_asg (i_kn k_law_moment tk hr (by decide) rfl (a_cons (i_div (i_var 6) i_int) a_nil) (len_cons len_nil) rfl) (g_nm sc_law.nd rfl (by first | exact Or.inl rfl | exact Or.inr rfl)))
  (ss_cons (s_if (PW.pt (w_or (t_not (t_tru (i_kn k_law_stretch_right tk hr (by decide) rfl (a_cons (i_var 2) (a_cons (i_var 7) (a_cons (i_var 8) (a_cons (i_var 9) a_nil)))) (len_cons (len_cons (len_cons (len_cons len_nil)))) rfl))) (w_one (t_ne (i_var 2) (i_var 3) hu)))) (ss_one (s_ret i_bl)) ss_nil)
  (ss_cons (s_asg (i_kn k_straight tk hr (by decide) rfl (a_cons (i_var 2) (a_cons (i_var 8) (a_cons (i_var 9) a_nil))) (len_cons (len_cons (len_cons len_nil))) rfl) (g_nm sc_law.nd rfl (by first | exact Or.inl rfl | exact Or.inr rfl)))
  (ss_cons (s_if (PW.pt (w_or (t_not (t_tru (i_kn k_law_is_share tk hr (by decide) rfl (a_cons (i_var 10) a_nil) (len_cons len_nil) rfl))) (w_one (t_ne (i_var 10) (i_kn k_law_there tk hr (by decide) rfl (a_cons (i_sl (i_ix (i_var 2) (i_var 8)) (p_some i_int) p_none) (a_cons (i_var 9) a_nil)) (len_cons (len_cons len_nil)) rfl) hu)))) (ss_one (s_ret i_bl)) ss_nil)
  (ss_one (s_if (t_lt (i_var 7) (i_var 8)) (ss_cons (s_asg (i_add (i_var 7) (i_mod (i_div (i_var 6) i_int) (i_sub (i_var 8) (i_var 7)))) (g_nm sc_law.nd rfl (by first | exact Or.inl rfl | exact Or.inr rfl)))
  (ss_cons (s_asg (i_lst (a_cons (i_tup (a_cons (i_var 7) (a_cons (i_var 11) a_nil))) (a_cons (i_tup (a_cons (i_add (i_var 11) i_int) (a_cons (i_var 8) a_nil))) a_nil))) (g_nm sc_law.nd rfl (by first | exact Or.inl rfl | exact Or.inr rfl)))
  (ss_cons (s_lc (own := [("_law_a", 16), ("_law_b", 17)]) rfl sc_law.nd (i := 13) rfl rfl (sw_true rfl rfl rfl (by decide +kernel)) (it_seq (i_var 12)) (blkOk_by (own := [("_law_a", 16), ("_law_b", 17)]) (N := ["_law_script", "_law_whole_here", "_law_row_here", "_law_kept", "_law_at", "_law_cell", "_law_number_here", "_law_first", "_law_last", "_law_moment_here", "_law_found", "_law_cut", "_law_parts", "_law_levers", "_law_both", "_law_two", "_law_a", "_law_b"]) (sc := defScope st_law) (by decide +kernel)) (by decide) (fun _ _ _ _ _ => (g_tp rfl (gs_cons (g_nm sc_law.nd rfl (by first | exact Or.inl rfl | exact Or.inr rfl)) (gs_cons (g_nm sc_law.nd rfl (by first | exact Or.inl rfl | exact Or.inr rfl)) gs_nil)))) (fun _ _ _ _ _ => ts_nil) (fun _ _ _ _ _ => by have tk := @takesN; exact (i_kn k_law_by tk hr (by decide) rfl (a_cons (i_tup (a_cons (i_kn k_weight_of tk hr (by decide) rfl (a_cons (i_var 2) (a_cons (i_var 16) (a_cons (i_var 17) a_nil))) (len_cons (len_cons (len_cons len_nil))) rfl) (a_cons i_int a_nil))) (a_cons (i_kn k_middle tk hr (by decide) rfl (a_cons (i_var 2) (a_cons (i_var 16) (a_cons (i_var 17) (a_cons (i_var 9) a_nil)))) (len_cons (len_cons (len_cons (len_cons len_nil)))) rfl) a_nil)) (len_cons (len_cons len_nil)) rfl)))
  (ss_cons (s_asg (i_kn k_law_by tk hr (by decide) rfl (a_cons (i_tup (a_cons (i_kn k_weight_of tk hr (by decide) rfl (a_cons (i_var 2) (a_cons (i_var 7) (a_cons (i_var 8) a_nil))) (len_cons (len_cons (len_cons len_nil))) rfl) (a_cons i_int a_nil))) (a_cons (i_kn k_middle tk hr (by decide) rfl (a_cons (i_var 2) (a_cons (i_var 7) (a_cons (i_var 8) (a_cons (i_var 9) a_nil)))) (len_cons (len_cons (len_cons (len_cons len_nil)))) rfl) a_nil)) (len_cons (len_cons len_nil)) rfl) (g_nm sc_law.nd rfl (by first | exact Or.inl rfl | exact Or.inr rfl)))
  (ss_one (s_if (t_ne (i_kn k_law_sum tk hr (by decide) rfl (a_cons (i_ix (i_var 13) i_int) (a_cons (i_ix (i_var 13) i_int) a_nil)) (len_cons (len_cons len_nil)) rfl) (i_var 14) hu) (ss_one (s_ret i_bl)) ss_nil)))))) ss_nil))))))))))
  (ss_cons (s_asg (i_lst (a_cons (i_tup (a_cons i_int (a_cons (i_tup (a_cons i_int (a_cons i_int a_nil))) (a_cons (i_tup (a_cons i_int (a_cons i_int a_nil))) a_nil)))) (a_cons (i_tup (a_cons i_int (a_cons (i_tup (a_cons i_int (a_cons i_int a_nil))) (a_cons (i_tup (a_cons (i_neg i_int) (a_cons i_int a_nil))) a_nil)))) a_nil))) (g_nm sc_law.nd rfl (by first | exact Or.inl rfl | exact Or.inr rfl)))
  (ss_cons (s_if (PW.pt (w_or (t_ne (i_kn k_weight_of tk hr (by decide) rfl (a_cons (i_var 15) (a_cons i_int (a_cons i_int a_nil))) (len_cons (len_cons (len_cons len_nil))) rfl) i_int hu) (w_or (t_ne (i_kn k_drive_of tk hr (by decide) rfl (a_cons (i_var 15) (a_cons i_int (a_cons i_int a_nil))) (len_cons (len_cons (len_cons len_nil))) rfl) (i_tup (a_cons (i_neg i_int) (a_cons i_int a_nil))) hu) (w_one (t_ne (i_kn k_straight tk hr (by decide) rfl (a_cons (i_var 15) (a_cons i_int (a_cons (i_tup (a_cons i_int (a_cons i_int a_nil))) a_nil))) (len_cons (len_cons (len_cons len_nil))) rfl) (i_tup (a_cons i_int (a_cons i_int a_nil))) hu))))) (ss_one (s_ret i_bl)) ss_nil)
  (ss_one (s_ret (i_and (i_eq (i_kn k_middle tk hr (by decide) rfl (a_cons (i_var 15) (a_cons i_int (a_cons i_int (a_cons (i_tup (a_cons i_int (a_cons i_int a_nil))) a_nil)))) (len_cons (len_cons (len_cons (len_cons len_nil)))) rfl) (i_tup (a_cons i_int (a_cons i_int a_nil))) hu) (i_one (i_eq (i_kn k_middle tk hr (by decide) rfl (a_cons (i_var 15) (a_cons i_int (a_cons i_int (a_cons (i_tup (a_cons i_int (a_cons i_int a_nil))) a_nil)))) (len_cons (len_cons (len_cons (len_cons len_nil)))) rfl) (i_tup (a_cons i_int (a_cons i_int a_nil))) hu)))))))))))
end
end Bd

set_option exponentiation.threshold 500
namespace Bd
noncomputable section
open PySem L2
theorem law_moment_eq (n : Int) : ∃ t : Rat, pure' F_law_moment [.int n] = .ok (encQ t) [] ∧ 0 ≤ t ∧ Sq 40 t := by
  have pd : ∀ (i : Int), Bt 30 i → ∀ x, Builtin.divisionGoesByPylong x i = false := fun i h x => py_small (n := 30) h (by decide)
  have d5 := pd 5 (by unfold Bt; decide)
  have d7 := pd 7 (by unfold Bt; decide)
  have d11 := pd 11 (by unfold Bt; decide)
  have p9 : (10 : Int) ^ Int.toNat 9 = 1000000000 := by decide
  obtain ⟨g, hg, g1⟩ := pick4 1 9 60 1000000000 (n.fdiv 5)
  obtain ⟨d, hd, d1⟩ := pick3 1 4 30 (n.fdiv 11)
  have g0 : 1 ≤ g ∧ g ≤ 1000000000 := by rcases g1 with rfl | rfl | rfl | rfl <;> decide
  have d0 : 1 ≤ d ∧ d ≤ 30 := by rcases d1 with rfl | rfl | rfl <;> decide
  have a1 := Int.fmod_nonneg_of_pos n (show 0 < g by omega)
  have a2 := Int.fmod_lt_of_pos n (show 0 < g by omega)
  have b1 := Int.fmod_nonneg_of_pos (n.fdiv 7) (show 0 < d by omega)
  have b2 := Int.fmod_lt_of_pos (n.fdiv 7) (show 0 < d by omega)
  have hg0 : ¬ g = 0 := by omega
  have hd0 : ¬ d = 0 := by omega
  generalize hA : n.fmod g = A at *
  generalize hB : 1 + (n.fdiv 7).fmod d = B at *
  have bB : Bt 40 B := bt_of (b := 60) (by omega) (by omega) (by unfold Bt; decide)
  have bA : Bt 40 A := bt_of (b := 1000000000) (by omega) (by omega) (by unfold Bt; decide)
  have e := law_low_eq (t := A) (b := B) (by omega) (bB.p9 (by decide))
  refine ⟨Rat.divInt A B, pure_rt (st := []) (v := encQ (Rat.divInt A B)) (by simp [S_law_moment, d5, d7, d11, p9, hg, hd, hg0, hd0, hA, hB, e]) (by simp), ?_, Sq.divInt bA bB (by omega)⟩
  by_cases hz : A = 0
  · rw [hz]; simp
  · have := divInt_lt (a := 0) (b := A) (c := B) (by omega) (by omega)
    simp at this
    grind
def sr : SI := (sSeq (sAsg (.nm 5) (eCallP F_law_sum [] (aCons (eVar 5) (aCons (eCallP F_law_by [] (aCons (eTup (aCons (eVar 8) (aCons (eC (.int 1)) aNil))) (aCons (eVar 10) aNil))) aNil))))
  (sSeq (sAsg (.nm 6) (eCallP F_law_sum [] (aCons (eVar 6) (aCons (eCallP F_law_by [] (aCons (eTup (aCons (eVar 8) (aCons (eC (.int 1)) aNil))) (aCons (eVar 9) aNil))) aNil))))
  (sAsg (.nm 7) (eCallP F_law_sum [] (aCons (eVar 7) (aCons (eCallP F_law_by [] (aCons (eTup (aCons (eVar 8) (aCons (eC (.int 1)) aNil))) (aCons (eCallP F_law_there [] (aCons (eTup (aCons (eVar 9) (aCons (eVar 10) aNil))) (aCons (eVar 3) aNil))) aNil))) aNil))))))
theorem sr_loop {t : Rat} (ht : Sq 40 t) {still : Sto → Prop} {st : Sto} (hst : still st) {s0 s1 s2 s4 s11 s12 s13 s14 s15 : Option Val} : ∀ {l : List Bead} {a : Nat} {d v h : Rat} {s8 s9 s10 : Option Val}, (∀ b ∈ l, BeadOk b) → Sq a d → Sq a v → Sq a h → a + l.length * 100 ≤ 4000 →
      ∃ t8 t9 t10, forL (.tp [.nm 8, .nm 9, .nm 10]) sr still (l.map encB) [s0, s1, s2, some (encQ t), s4, some (encQ d), some (encQ v), some (encQ h), s8, s9, s10, s11, s12, s13, s14, s15] st = .nx [s0, s1, s2, some (encQ t), s4, some (encQ (d + dot (wv l))), some (encQ (v + dot (wp l))), some (encQ (h + (dot (wp l) + dot (wv l) * t))), t8, t9, t10, s11, s12, s13, s14, s15] st
  | [], a, d, v, h, s8, s9, s10, _, _, _, _, _ => ⟨s8, s9, s10, by simp [wv, wp, dot, Rat.add_zero, Rat.zero_mul]⟩
  | b :: l, a, d, v, h, s8, s9, s10, hl, hd, hv, hh, hs => by
    rw [List.length_cons, Nat.succ_mul] at hs
    have h1 := hl b (by simp)
    have sw := h1.w.ws.sq
    have p1 := law_by_b sw.b h1.v.sq.b (by omega) (by omega)
    have z1 := sw.mul h1.v.sq
    have q1 := law_sum_b hd.b z1.b (by omega) (by omega)
    have p2 := law_by_b sw.b h1.p.sq.b (by omega) (by omega)
    have z2 := sw.mul h1.p.sq
    have q2 := law_sum_b hv.b z2.b (by omega) (by omega)
    have th := law_there_b h1.p.sq.b h1.v.sq.b ht.b (by omega) (by omega)
    have zt := h1.p.sq.add (h1.v.sq.mul ht)
    have p3 := law_by_b sw.b zt.b (by omega) (by omega)
    have z3 := sw.mul zt
    have q3 := law_sum_b hh.b z3.b (by omega) (by omega)
    obtain ⟨t8, t9, t10, e⟩ := sr_loop ht hst (s0 := s0) (s1 := s1) (s2 := s2) (s4 := s4) (s11 := s11) (s12 := s12) (s13 := s13) (s14 := s14) (s15 := s15) (l := l) (a := a + 100) (d := d + (b.w : Rat) * b.v) (v := v + (b.w : Rat) * b.p) (h := h + (b.w : Rat) * (b.p + b.v * t)) (s8 := some (.int b.w)) (s9 := some (encQ b.p)) (s10 := some (encQ b.v))
      (fun r hr => hl r (by simp [hr])) ((hd.add z1).mono (by omega)) ((hv.add z2).mono (by omega)) ((hh.add z3).mono (by omega)) (by omega)
    refine ⟨t8, t9, t10, ?_⟩
    have w1 : d + (b.w : Rat) * b.v + dot (wv l) = d + dot (wv (b :: l)) := by
      show _ = d + ((b.w : Rat) * b.v + dot (wv l)); grind
    have w2 : v + (b.w : Rat) * b.p + dot (wp l) = v + dot (wp (b :: l)) := by
      show _ = v + ((b.w : Rat) * b.p + dot (wp l)); grind
    have w3 : h + (b.w : Rat) * (b.p + b.v * t) + (dot (wp l) + dot (wv l) * t) = h + (dot (wp (b :: l)) + dot (wv (b :: l)) * t) := by
      show _ = h + (((b.w : Rat) * b.p + dot (wp l)) + ((b.w : Rat) * b.v + dot (wv l)) * t); grind
    rw [w1, w2, w3] at e
    rw [List.map_cons, forL_cons]
    have tg : Tg.st st (.tp [.nm 8, .nm 9, .nm 10]) (encB b) [s0, s1, s2, some (encQ t), s4, some (encQ d), some (encQ v), some (encQ h), s8, s9, s10, s11, s12, s13, s14, s15] = some [s0, s1, s2, some (encQ t), s4, some (encQ d), some (encQ v), some (encQ h), some (.int b.w), some (encQ b.p), some (encQ b.v), s11, s12, s13, s14, s15] := by simp
    rw [tg]
    have bd : sr [s0, s1, s2, some (encQ t), s4, some (encQ d), some (encQ v), some (encQ h), some (.int b.w), some (encQ b.p), some (encQ b.v), s11, s12, s13, s14, s15] st = .nx [s0, s1, s2, some (encQ t), s4, some (encQ (d + (b.w : Rat) * b.v)), some (encQ (v + (b.w : Rat) * b.p)), some (encQ (h + (b.w : Rat) * (b.p + b.v * t))), some (.int b.w), some (encQ b.p), some (encQ b.v), s11, s12, s13, s14, s15] st := by
      unfold sr
      simp [fold_int1, p1, q1, p2, q2, th, p3, q3]
    dsimp only
    rw [bd]
    dsimp only
    rw [if_pos hst]
    exact e
/-- what a stretch weighs times its middle -/
theorem lever_eq {l : List Bead} (ok : RowOk l) {f e : Nat} (h1 : f ≤ e) (h2 : e < l.length) (t : Rat) : (wsum (wp (seg l f e)) : Rat) * (lineP l f e + lineV l f e * t) = dot (wp (seg l f e)) + dot (wv (seg l f e)) * t := by
  have hw : ∀ part, ∀ p ∈ wx part (seg l f e), Ws p.1 := fun part p hp => (wx_ok (part := part) (fun b hb => ok.ok b (seg_mem hb)) p hp).1
  have n1 := wx_ne (part := false) (seg_ne h1 h2)
  have n2 := wx_ne (part := true) (seg_ne h1 h2)
  have m1 := mid_mul (hw false) n1
  have m2 := mid_mul (hw true) n2
  have e1 : lineP l f e * (wsum (wp (seg l f e)) : Rat) = dot (wp (seg l f e)) := m1
  have e2 : lineV l f e * (wsum (wv (seg l f e)) : Rat) = dot (wv (seg l f e)) := m2
  rw [wv_sum] at e2
  grind
theorem wsum_sq {l : List Bead} (ok : RowOk l) {f e : Nat} (h1 : f ≤ e) (h2 : e < l.length) : Sq 23 (wsum (wp (seg l f e)) : Rat) := by
  have hw : ∀ p ∈ wp (seg l f e), Ws p.1 := fun p hp => (wx_ok (part := false) (fun b hb => ok.ok b (seg_mem hb)) p hp).1
  have hl := seg_len h1 h2
  have := ok.len
  exact Sq.int (wsum_bt hw (by show (wp (seg l f e)).length ≤ 4000; simp [wp, hl]; omega))
theorem dot_sq {l : List Bead} (ok : RowOk l) {f e : Nat} (h1 : f ≤ e) (h2 : e < l.length) (part : Bool) : Sq 400 (dot (wx part (seg l f e))) := by
  have hl := seg_len h1 h2
  have := ok.len
  exact (Sq.dot (n := 20) (wx_ok (fun b hb => ok.ok b (seg_mem hb)))).mono (by rw [wx_len, hl]; omega)
theorem stretch_right {l : List Bead} (ok : RowOk l) {f e : Nat} (h1 : f ≤ e) (h2 : e < l.length) {t : Rat} (ht : Sq 40 t) (h0 : 0 ≤ t) :
    pure' F_law_stretch_right [.lst (l.map encB), .int (f : Int), .int (e : Int), encQ t] = .ok (.bl true) [] := by
  have c := cut_seg encB h1 h2
  have ln := seg_len h1 h2
  have l10 := ok.len
  have fr := flats_row l
  have wo := weight_of_eq ok h1 h2
  have dr := drive_of_eq ok h1 h2
  have mi := middle_eq ok h1 h2 ht (by decide) h0
  have m0 := middle_eq (m := 10) ok h1 h2 (t := 0) ⟨by decide +kernel, by decide +kernel⟩ (by decide) (by decide +kernel)
  rw [Rat.mul_zero, Rat.add_zero] at m0
  have z0 : encQ 0 = .tup [.int 0, .int 1] := enc_eq (by decide +kernel) (by decide +kernel)
  have k := eComp_map (it := iSeq (eSl (eVar 0) (pSome (eVar 1)) (pSome (eBin kAdd (eVar 2) (eC (.int 1)))))) (t := .nm 14) (own := [14]) (c := bYes) (f := eBin kIx (eVar 14) (eC (.int 0))) (σ := [some (.lst (l.map encB)), some (.int (f : Int)), some (.int (e : Int)), some (encQ t), none, none, none, none, none, none, none, none, none, none, none, none]) (st := []) (g := encB) (h := fun b => Val.int b.w) (p := fun _ => true) (l := seg l f e)
    (still := fun st' => seqOf st' (.lst ((seg l f e).map encB)) = some ((seg l f e).map encB)) (by simp [c]) rfl (by omega) fun b _ => ⟨_, by simp; rfl, by simp, fun _ => by simp⟩
  rw [List.filter_eq_self.mpr (by simp)] at k
  have i := intsOf_mapf (fun b : Bead => b.w) (seg l f e)
  have s := wp_sum (seg l f e)
  have ll := lever_eq ok h1 h2 t
  have l0 := lever_eq ok h1 h2 0
  rw [Rat.mul_zero, Rat.add_zero, Rat.mul_zero, Rat.add_zero] at l0
  have sw := wsum_sq ok h1 h2
  have sp := lineP_sq ok.ok ok.len h1 h2
  have sv := lineV_sq ok.ok ok.len h1 h2
  have sm := sp.add (sv.mul ht)
  have sd : Sq 400 (dot (wv (seg l f e))) := dot_sq ok h1 h2 true
  have sq : Sq 400 (dot (wp (seg l f e))) := dot_sq ok h1 h2 false
  have b1 := law_by_b sw.b sm.b (by omega) (by omega)
  have b2 := law_by_b sw.b sp.b (by omega) (by omega)
  rw [ll] at b1
  rw [l0] at b2
  have b3 := law_by_b sd.b ht.b (by omega) (by omega)
  have b4 := law_sum_b sq.b (sd.mul ht).b (by omega) (by omega)
  have i1 := law_is_share_eq (x := dot (wv (seg l f e))) (Nat.lt_of_lt_of_le sd.2 (Nat.pow_le_pow_right (by decide) (by decide)))
  have i2 := law_is_share_eq (x := lineP l f e + lineV l f e * t) (Nat.lt_of_lt_of_le sm.2 (Nat.pow_le_pow_right (by decide) (by decide)))
  obtain ⟨t8, t9, t10, lo⟩ := sr_loop ht (still := fun st' => seqOf st' (.lst ((seg l f e).map encB)) = some ((seg l f e).map encB)) (st := []) rfl (s0 := some (.lst (l.map encB))) (s1 := some (.int (f : Int))) (s2 := some (.int (e : Int))) (s4 := some (.lst ((seg l f e).map fun b => Val.int b.w))) (s11 := none) (s12 := none) (s13 := none) (s14 := none) (s15 := none) (l := seg l f e) (a := 1) (d := 0) (v := 0) (h := 0) (s8 := none) (s9 := none) (s10 := none) (fun b hb => ok.ok b (seg_mem hb)) ⟨by decide +kernel, by decide +kernel⟩ ⟨by decide +kernel, by decide +kernel⟩ ⟨by decide +kernel, by decide +kernel⟩ (by omega)
  rw [Rat.zero_add, Rat.zero_add, Rat.zero_add] at lo
  have it : (iSeq (eSl (eVar 0) (pSome (eVar 1)) (pSome (eBin kAdd (eVar 2) (eC (.int 1)))))) [some (.lst (l.map encB)), some (.int (f : Int)), some (.int (e : Int)), some (encQ t), some (.lst ((seg l f e).map fun b => Val.int b.w)), some (encQ 0), some (encQ 0), some (encQ 0), none, none, none, none, none, none, none, none] [] = .ok ((seg l f e).map encB, fun st' => seqOf st' (.lst ((seg l f e).map encB)) = some ((seg l f e).map encB)) [] := by simp [c]
  have ef := x_sFor (t := .tp [.nm 8, .nm 9, .nm 10]) (body := sr) it rfl
  rw [lo] at ef
  have wv1 : pure' F_law_whole [.int (wsum (wp (seg l f e)))] = .ok (.bl true) [] := law_whole_int _
  have cc : ∀ (σ : Sg) (hσ : σ = [some (.lst (l.map encB)), some (.int (f : Int)), some (.int (e : Int)), some (encQ t), some (.lst ((seg l f e).map fun b => Val.int b.w)), some (encQ (dot (wv (seg l f e)))), some (encQ (dot (wp (seg l f e)))), some (encQ (dot (wp (seg l f e)) + dot (wv (seg l f e)) * t)), t8, t9, t10, some (.int (wsum (wp (seg l f e)))), some (.lst [encQ (dot (wv (seg l f e))), encQ (lineP l f e + lineV l f e * t)]), none, none, none]), (eComp (iSeq (eVar 12)) (.nm 15) [15] bYes (eCallP F_law_is_share [] (aCons (eVar 15) aNil))) σ [] = .ok (.lst [.bl true, .bl true]) [] := by
    rintro σ rfl
    simp [eComp, compL, small, i1, i2]
  have cc := cc _ rfl
  refine pure_bl ⟨[], ?_⟩
  generalize hF : sFor (iSeq (eSl (eVar 0) (pSome (eVar 1)) (pSome (eBin kAdd (eVar 2) (eC (.int 1)))))) (.tp [.nm 8, .nm 9, .nm 10]) sr = FL at ef
  unfold sr at hF
  generalize hC1 : (eComp (iSeq (eSl (eVar 0) (pSome (eVar 1)) (pSome (eBin kAdd (eVar 2) (eC (.int 1)))))) (.nm 14) [14] bYes (eBin kIx (eVar 14) (eC (.int 0)))) = D1 at k
  generalize hC2 : (eComp (iSeq (eVar 12)) (.nm 15) [15] bYes (eCallP F_law_is_share [] (aCons (eVar 15) aNil))) = D2 at cc
  simp only [S_law_stretch_right, hF, hC1, hC2]
  generalize ((seg l f e).map fun b => Val.int b.w) = ws at *
  generalize wsum (wp (seg l f e)) = W at *
  generalize dot (wv (seg l f e)) = dv at *
  generalize dot (wp (seg l f e)) = dp at *
  generalize lineP l f e + lineV l f e * t = mm at *
  generalize lineP l f e = m1 at *
  simp [k, fr, ef, wo, dr, mi, m0, wv1, i, s, cc, fold_int1, b1, b2, b3, b4, show blsOf [.bl true, .bl true] = some [true, true] from rfl]
/-! ## cut in two -/
theorem seg_cut {l : List Bead} {f c e : Nat} (h1 : f ≤ c) (h2 : c < e) : seg l f e = seg l f c ++ seg l (c + 1) e := by
  unfold seg
  have a : e + 1 - f = (c + 1 - f) + (e + 1 - (c + 1)) := by omega
  rw [a, List.take_add, List.drop_drop]
  congr 3
  omega
theorem dot_cut {l : List Bead} {f c e : Nat} (h1 : f ≤ c) (h2 : c < e) (t : Rat) : (dot (wp (seg l f c)) + dot (wv (seg l f c)) * t) + (dot (wp (seg l (c + 1) e)) + dot (wv (seg l (c + 1) e)) * t) = dot (wp (seg l f e)) + dot (wv (seg l f e)) * t := by
  have a : wp (seg l f e) = wp (seg l f c) ++ wp (seg l (c + 1) e) := by rw [seg_cut h1 h2]; simp [wp]
  have b : wv (seg l f e) = wv (seg l f c) ++ wv (seg l (c + 1) e) := by rw [seg_cut h1 h2]; simp [wv]
  rw [a, b, dot_append, dot_append]
  grind
theorem seg_one {l : List Bead} {f : Nat} (h : f < l.length) : seg l f f = [nb l f] := by
  unfold seg
  rw [getD_get h, show f + 1 - f = 1 from by omega, List.drop_eq_getElem_cons h]
  rfl
theorem line_one {l : List Bead} (ok : RowOk l) {f : Nat} (h : f < l.length) : lineP l f f = (nb l f).p ∧ lineV l f f = (nb l f).v := by
  have w := (ok.at h).w.ws
  have hne : ((nb l f).w : Rat) ≠ 0 := cast_ne (by have := w.pos; omega)
  unfold lineP lineV
  rw [seg_one h]
  constructor
  · exact mid_of (fun p hp => by simp [wp] at hp; subst hp; exact w) (by simp [wp]) (by show (nb l f).p * (((nb l f).w + 0 : Int) : Rat) = ((nb l f).w : Rat) * (nb l f).p + 0; rw [Int.add_zero]; grind)
  · exact mid_of (fun p hp => by simp [wv] at hp; subst hp; exact w) (by simp [wv]) (by show (nb l f).v * (((nb l f).w + 0 : Int) : Rat) = ((nb l f).w : Rat) * (nb l f).v + 0; rw [Int.add_zero]; grind)
/-- weight times middle, as the law reckons it -/
theorem by_lever {l : List Bead} (ok : RowOk l) {f e : Nat} (h1 : f ≤ e) (h2 : e < l.length) {t : Rat} (ht : Sq 40 t) : pure' F_law_by [encQ (wsum (wp (seg l f e)) : Rat), encQ (lineP l f e + lineV l f e * t)] = .ok (encQ (dot (wp (seg l f e)) + dot (wv (seg l f e)) * t)) [] := by
  have sw := wsum_sq ok h1 h2
  have sm := (lineP_sq ok.ok ok.len h1 h2).add ((lineV_sq ok.ok ok.len h1 h2).mul ht)
  have b1 := law_by_b sw.b sm.b (by omega) (by omega)
  rw [lever_eq ok h1 h2 t] at b1
  exact b1
def tb : SI := (sSeq (sAsg (.nm 6) (eCallP F_law_number [] (aCons (eVar 5) (aCons (eBin kAdd (eVar 4) (eC (.int 3))) (aCons (eVar 1) aNil)))))
  (sSeq (sAsg (.nm 7) (eBin kMod (eVar 6) (eB kLen (aCons (eVar 2) aNil))))
  (sSeq (sAsg (.nm 8) (eBin kAdd (eVar 7) (eBin kMod (eBin kDiv (eVar 6) (eC (.int 11))) (eBin kSub (eB kLen (aCons (eVar 2) aNil)) (eVar 7)))))
  (sSeq (sAsg (.nm 9) (eCallP F_law_moment [] (aCons (eBin kDiv (eVar 6) (eC (.int 121))) aNil)))
  (sSeq (sIf (bOr (bNot (bTru (eCallP F_law_stretch_right [] (aCons (eVar 2) (aCons (eVar 7) (aCons (eVar 8) (aCons (eVar 9) aNil))))))) (bOf (eBin kNe (eVar 2) (eVar 3)))) (sRet (eC (.bl false))) sPass)
  (sSeq (sAsg (.nm 10) (eCallP F_straight [] (aCons (eVar 2) (aCons (eVar 8) (aCons (eVar 9) aNil)))))
  (sSeq (sIf (bOr (bNot (bTru (eCallP F_law_is_share [] (aCons (eVar 10) aNil)))) (bOf (eBin kNe (eVar 10) (eCallP F_law_there [] (aCons (eSl (eBin kIx (eVar 2) (eVar 8)) (pSome (eC (.int 1))) pNone) (aCons (eVar 9) aNil)))))) (sRet (eC (.bl false))) sPass)
  (sIf (bOf (eBin kLt (eVar 7) (eVar 8))) (sSeq (sAsg (.nm 11) (eBin kAdd (eVar 7) (eBin kMod (eBin kDiv (eVar 6) (eC (.int 7))) (eBin kSub (eVar 8) (eVar 7)))))
  (sSeq (sAsg (.nm 12) (eLst (aCons (eTup (aCons (eVar 7) (aCons (eVar 11) aNil))) (aCons (eTup (aCons (eBin kAdd (eVar 11) (eC (.int 1))) (aCons (eVar 8) aNil))) aNil))))
  (sSeq (sAsg (.nm 13) (eComp (iSeq (eVar 12)) (.tp [(.nm 16), (.nm 17)]) [16, 17] bYes (eCallP F_law_by [] (aCons (eTup (aCons (eCallP F_weight_of [] (aCons (eVar 2) (aCons (eVar 16) (aCons (eVar 17) aNil)))) (aCons (eC (.int 1)) aNil))) (aCons (eCallP F_middle [] (aCons (eVar 2) (aCons (eVar 16) (aCons (eVar 17) (aCons (eVar 9) aNil))))) aNil)))))
  (sSeq (sAsg (.nm 14) (eCallP F_law_by [] (aCons (eTup (aCons (eCallP F_weight_of [] (aCons (eVar 2) (aCons (eVar 7) (aCons (eVar 8) aNil)))) (aCons (eC (.int 1)) aNil))) (aCons (eCallP F_middle [] (aCons (eVar 2) (aCons (eVar 7) (aCons (eVar 8) (aCons (eVar 9) aNil))))) aNil))))
  (sIf (bOf (eBin kNe (eCallP F_law_sum [] (aCons (eBin kIx (eVar 13) (eC (.int 0))) (aCons (eBin kIx (eVar 13) (eC (.int 1))) aNil))) (eVar 14))) (sRet (eC (.bl false))) sPass))))) sPass))))))))
theorem turn04 {l : List Bead} (ok : RowOk l) {W z : Int} (hW : Bt 1048590 W) (hz : Bt 1048600 z) {k : Nat} (hk : k ≤ 100) (x0 x6 x7 x8 x9 x10 x11 x12 x13 x14 x15 x16 x17 : Option Val) :
    ∃ y6 y7 y8 y9 y10 y11 y12 y13 y14, tb [x0, some (.int W), some (.lst (l.map encB)), some (.lst (l.map encB)), some (.int (k : Int)), some (.int z), x6, x7, x8, x9, x10, x11, x12, x13, x14, x15, x16, x17] [] = .nx [x0, some (.int W), some (.lst (l.map encB)), some (.lst (l.map encB)), some (.int (k : Int)), some (.int z), y6, y7, y8, y9, y10, y11, y12, y13, y14, x15, x16, x17] [] := by
  have n1 := law_number_g hz (bt_of (n := 20) (b := 1000) (by omega) (by omega) (by unfold Bt; decide) : Bt 20 ((k : Int) + 3)) (hW.mono (by decide))
  generalize lawNumber z ((k : Int) + 3) W = N at n1
  have l0 : 0 < l.length := List.length_pos_iff.mpr ok.ne
  have l1 := ok.len
  have pd : ∀ (i : Int), Bt 30 i → ∀ x, Builtin.divisionGoesByPylong x i = false := fun i h x => py_small (n := 30) h (by decide)
  have d11 := pd 11 (by unfold Bt; decide)
  have d121 := pd 121 (by unfold Bt; decide)
  have d7 := pd 7 (by unfold Bt; decide)
  have a1 := Int.fmod_nonneg_of_pos N (show (0 : Int) < (l.length : Int) by omega)
  have a2 := Int.fmod_lt_of_pos N (show (0 : Int) < (l.length : Int) by omega)
  obtain ⟨f, hf⟩ := Int.eq_ofNat_of_zero_le a1
  rw [hf] at a2
  have b1 := Int.fmod_nonneg_of_pos (N.fdiv 11) (show (0 : Int) < (l.length : Int) - (f : Int) by omega)
  have b2 := Int.fmod_lt_of_pos (N.fdiv 11) (show (0 : Int) < (l.length : Int) - (f : Int) by omega)
  obtain ⟨e, he⟩ := Int.eq_ofNat_of_zero_le (show 0 ≤ (f : Int) + (N.fdiv 11).fmod ((l.length : Int) - (f : Int)) by omega)
  have hfe : f ≤ e := by omega
  have hel : e < l.length := by omega
  obtain ⟨t, m1, t0, ts⟩ := law_moment_eq (N.fdiv 121)
  have sr := stretch_right ok hfe hel ts t0
  have st := straight_eq ok hel ts (by decide) t0
  obtain ⟨o1, o2⟩ := line_one ok hel
  rw [o1, o2] at st
  have be := ok.at hel
  have th := law_there_b be.p.sq.b be.v.sq.b ts.b (by omega) (by omega)
  have sth := be.p.sq.add (be.v.sq.mul ts)
  have ish := law_is_share_eq (x := (nb l e).p + (nb l e).v * t) (Nat.lt_of_lt_of_le sth.2 (Nat.pow_le_pow_right (by decide) (by decide)))
  have ate := atB (l := l) (i := e) hel
  have fr := flats_row l
  have hl0 : ¬ (l.length : Int) = 0 := by omega
  have hlf : ¬ (l.length : Int) - (f : Int) = 0 := by omega
  have hn := ok.ne
  have same : (toD [] 12 (.lst (l.map encB))) = some (.list (l.map pdB)) := by simp
  have ev := eqv_beads (l := l) (l' := l)
  unfold tb
  by_cases hlt : f < e
  · have c1 := Int.fmod_nonneg_of_pos (N.fdiv 7) (show (0 : Int) < (e : Int) - (f : Int) by omega)
    have c2 := Int.fmod_lt_of_pos (N.fdiv 7) (show (0 : Int) < (e : Int) - (f : Int) by omega)
    obtain ⟨c, hc⟩ := Int.eq_ofNat_of_zero_le (show 0 ≤ (f : Int) + (N.fdiv 7).fmod ((e : Int) - (f : Int)) by omega)
    have hfc : f ≤ c := by omega
    have hce : c < e := by omega
    have hef : ¬ (e : Int) - (f : Int) = 0 := by omega
    have w1 := weight_of_eq ok hfc (by omega)
    have w2 := weight_of_eq ok (f := c + 1) (e := e) (by omega) hel
    have w3 := weight_of_eq ok hfe hel
    have i1 := middle_eq ok hfc (by omega) ts (by decide) t0
    have i2 := middle_eq ok (f := c + 1) (e := e) (by omega) hel ts (by decide) t0
    have i3 := middle_eq ok hfe hel ts (by decide) t0
    have y1 := by_lever ok hfc (by omega) ts
    have y2 := by_lever ok (f := c + 1) (e := e) (by omega) hel ts
    have y3 := by_lever ok hfe hel ts
    have z1 := (dot_sq ok hfc (by omega) false).add ((dot_sq ok hfc (by omega) true).mul ts)
    have z2 := (dot_sq ok (f := c + 1) (e := e) (by omega) hel false).add ((dot_sq ok (f := c + 1) (e := e) (by omega) hel true).mul ts)
    have su := law_sum_b z1.b z2.b (by omega) (by omega)
    have dc := dot_cut (l := l) hfc hce t
    have su : pure' F_law_sum [encQ (dot (wp (seg l f c)) + dot (wv (seg l f c)) * t), encQ (dot (wp (seg l (c + 1) e)) + dot (wv (seg l (c + 1) e)) * t)] = .ok (encQ (dot (wp (seg l f e)) + dot (wv (seg l f e)) * t)) [] := by
      rw [← dc]; exact su
    have hcast : ((c + 1 : Nat) : Int) = (c : Int) + 1 := by omega
    rw [hcast] at w2 i2
    have cc : ∀ (x13 x14 x15 x16 x17 : Option Val), (eComp (iSeq (eVar 12)) (.tp [(.nm 16), (.nm 17)]) [16, 17] bYes (eCallP F_law_by [] (aCons (eTup (aCons (eCallP F_weight_of [] (aCons (eVar 2) (aCons (eVar 16) (aCons (eVar 17) aNil)))) (aCons (eC (.int 1)) aNil))) (aCons (eCallP F_middle [] (aCons (eVar 2) (aCons (eVar 16) (aCons (eVar 17) (aCons (eVar 9) aNil))))) aNil)))) [x0, some (.int W), some (.lst (l.map encB)), some (.lst (l.map encB)), some (.int (k : Int)), some (.int z), some (.int N), some (.int (f : Int)), some (.int (e : Int)), some (encQ t), some (encQ ((nb l e).p + (nb l e).v * t)), some (.int (c : Int)), some (.lst [.tup [.int (f : Int), .int (c : Int)], .tup [.int ((c : Int) + 1), .int (e : Int)]]), x13, x14, x15, x16, x17] [] = .ok (.lst [encQ (dot (wp (seg l f c)) + dot (wv (seg l f c)) * t), encQ (dot (wp (seg l (c + 1) e)) + dot (wv (seg l (c + 1) e)) * t)]) [] := fun x13 x14 x15 x16 x17 => by
      simp [eComp, compL, small, w1, w2, i1, i2, fr, fold_int1, y1, y2]
    generalize hC : (eComp (iSeq (eVar 12)) (.tp [(.nm 16), (.nm 17)]) [16, 17] bYes (eCallP F_law_by [] (aCons (eTup (aCons (eCallP F_weight_of [] (aCons (eVar 2) (aCons (eVar 16) (aCons (eVar 17) aNil)))) (aCons (eC (.int 1)) aNil))) (aCons (eCallP F_middle [] (aCons (eVar 2) (aCons (eVar 16) (aCons (eVar 17) (aCons (eVar 9) aNil))))) aNil)))) = C at cc ⊢
    refine ⟨some (.int N), some (.int (f : Int)), some (.int (e : Int)), some (encQ t), some (encQ ((nb l e).p + (nb l e).v * t)), some (.int (c : Int)), some (.lst [.tup [.int (f : Int), .int (c : Int)], .tup [.int ((c : Int) + 1), .int (e : Int)]]), some (.lst [encQ (dot (wp (seg l f c)) + dot (wv (seg l f c)) * t), encQ (dot (wp (seg l (c + 1) e)) + dot (wv (seg l (c + 1) e)) * t)]), some (encQ (dot (wp (seg l f e)) + dot (wv (seg l f e)) * t)), ?_⟩
    simp [n1, hf, d11, d121, d7, hl0, hlf, hn, he, m1, sr, fr, st, ish, ate, th, hlt, hc, hef, cc, w3, i3, fold_int1, y3, su]
  · refine ⟨some (.int N), some (.int (f : Int)), some (.int (e : Int)), some (encQ t), some (encQ ((nb l e).p + (nb l e).v * t)), x11, x12, x13, x14, ?_⟩
    simp [n1, hf, d11, d121, hl0, hlf, hn, he, m1, sr, fr, st, ish, ate, th, hlt]
theorem two_row {a b : Bead} (ha : BeadOk a) (hb : BeadOk b) (h : a.p < b.p) : RowOk [a, b] := by
  refine ⟨by simp, by simp, fun x hx => ?_, fun i hi => ?_⟩
  · simp only [List.mem_cons, List.not_mem_nil, or_false] at hx
    rcases hx with rfl | rfl
    · exact ha
    · exact hb
  · simp at hi
    have : i = 0 := by omega
    subst this
    exact h
def two : List Bead := [⟨1, 0, 1⟩, ⟨3, 2, -1 / 2⟩]
theorem two_ok : RowOk two := two_row ⟨⟨by decide, by decide⟩, ⟨by decide +kernel, by decide +kernel⟩, ⟨by decide +kernel, by decide +kernel⟩⟩ ⟨⟨by decide, by decide⟩, ⟨by decide +kernel, by decide +kernel⟩, ⟨by decide +kernel, by decide +kernel⟩⟩ (by decide +kernel)
def twoV : List Val := [.tup [.int 1, .tup [.int 0, .int 1], .tup [.int 1, .int 1]], .tup [.int 3, .tup [.int 2, .int 1], .tup [.int (-1), .int 2]]]
theorem two_enc : two.map encB = twoV := by
  have e0 : encQ 0 = .tup [.int 0, .int 1] := enc_eq (by decide +kernel) (by decide +kernel)
  have e1 : encQ 1 = .tup [.int 1, .int 1] := enc_eq (by decide +kernel) (by decide +kernel)
  have e2 : encQ 2 = .tup [.int 2, .int 1] := enc_eq (by decide +kernel) (by decide +kernel)
  have e4 : encQ (-1 / 2) = .tup [.int (-1), .int 2] := enc_eq (by decide +kernel) (by decide +kernel)
  simp only [two, twoV, List.map_cons, List.map_nil, encB, e0, e1, e2, e4]
theorem end04 : pure' F_weight_of [.lst twoV, .int 0, .int 1] = .ok (.int 4) [] ∧ pure' F_drive_of [.lst twoV, .int 0, .int 1] = .ok (.tup [.int (-1), .int 2]) [] ∧ pure' F_straight [.lst twoV, .int 1, .tup [.int 2, .int 1]] = .ok (.tup [.int 1, .int 1]) [] ∧
    pure' F_middle [.lst twoV, .int 0, .int 1, .tup [.int 0, .int 1]] = .ok (.tup [.int 3, .int 2]) [] ∧ pure' F_middle [.lst twoV, .int 0, .int 1, .tup [.int 2, .int 1]] = .ok (.tup [.int 5, .int 4]) [] := by
  have e0 : encQ 0 = .tup [.int 0, .int 1] := enc_eq (by decide +kernel) (by decide +kernel)
  have e2 : encQ 2 = .tup [.int 2, .int 1] := enc_eq (by decide +kernel) (by decide +kernel)
  have w := weight_of_eq two_ok (f := 0) (e := 1) (by decide) (by decide)
  have d := drive_of_eq two_ok (f := 0) (e := 1) (by decide) (by decide)
  have s := straight_eq two_ok (f := 1) (m := 3) (t := 2) (by decide) ⟨by decide +kernel, by decide +kernel⟩ (by decide) (by decide +kernel)
  have m0 := middle_eq two_ok (f := 0) (e := 1) (m := 3) (t := 0) (by decide) (by decide) ⟨by decide +kernel, by decide +kernel⟩ (by decide) (by decide +kernel)
  have m2 := middle_eq two_ok (f := 0) (e := 1) (m := 3) (t := 2) (by decide) (by decide) ⟨by decide +kernel, by decide +kernel⟩ (by decide) (by decide +kernel)
  rw [two_enc] at w d s m0 m2
  rw [show encQ (dot (wv (seg two 0 1))) = .tup [.int (-1), .int 2] from enc_eq (by decide +kernel) (by decide +kernel)] at d
  rw [e2, show encQ (lineP two 1 1 + lineV two 1 1 * 2) = .tup [.int 1, .int 1] from enc_eq (by decide +kernel) (by decide +kernel)] at s
  rw [e0, show encQ (lineP two 0 1 + lineV two 0 1 * 0) = .tup [.int 3, .int 2] from enc_eq (by decide +kernel) (by decide +kernel)] at m0
  rw [e2, show encQ (lineP two 0 1 + lineV two 0 1 * 2) = .tup [.int 5, .int 4] from enc_eq (by decide +kernel) (by decide +kernel)] at m2
  rw [show wsum (wp (seg two 0 1)) = 4 from by decide +kernel] at w
  exact ⟨w, d, s, m0, m2⟩
theorem enumV_map {α : Type} (g : α → Val) : ∀ (l : List α) (k : Nat), enumV k (l.map g) = (l.zipIdx k).map fun p => .tup [.int (p.2 : Int), g p.1]
  | [], k => rfl
  | x :: l, k => by
    rw [List.map_cons, enumV_cons, List.zipIdx_cons, List.map_cons, enumV_map g l (k + 1)]
theorem law_true : LawHolds F_law := by
  intro ns hl hb
  have hs := scr_of hl hb
  obtain ⟨l, same, ok, _, _, _, e⟩ := law_row_eq hs (k := 0) (most := 10) (al := false) (by decide) (by decide) (by decide) (by decide)
  have hc : cutG (ns.map Val.int) none (some 63) = ns.map Val.int := cutG_all _ 63 (by simpa using hl)
  have hc2 : cutG (ns.map Val.int) none (some 10) = (ns.take 10).map Val.int := by
    have h : (10 : Int) = ((10 : Nat) : Int) := rfl
    by_cases hn : 10 ≤ ns.length
    · unfold cutG
      rw [h, HT.sIx_none, HT.sIx_nat]
      simp [List.map_take, Nat.min_eq_left hn]
    · exact (cutG_all (ns.map Val.int) 10 (by simp; omega)).trans (by rw [List.take_of_length_le (by omega)])
  have l1 := ok.len
  have bz : ∀ z ∈ ns.sum :: ns.take 10, Bt 1048600 z := fun z hz => by
    rcases List.mem_cons.mp hz with rfl | hz
    · exact hs.sum.mono (by decide)
    · exact (hs.bits z (List.mem_of_mem_take hz)).mono (by decide)
  obtain ⟨σ2, f2, y4, y5, y6, y7, y8, y9, y10, y11, y12, y13, y14, hσ⟩ := forL_map (t := .tp [.nm 4, .nm 5]) (body := tb) (still := fun st' => listOf st' (.lst ((ns.sum :: ns.take 10).map .int)) = some ((ns.sum :: ns.take 10).map .int)) (st := []) (g := fun p : Int × Nat => Val.tup [.int (p.2 : Int), .int p.1])
    (fun (_ : List (Int × Nat)) (σ : Sg) => ∃ y4 y5 y6 y7 y8 y9 y10 y11 y12 y13 y14, σ = [some (.scr (ns.map .int)), some (.int ns.sum), some (.lst (l.map encB)), some (.lst (l.map encB)), y4, y5, y6, y7, y8, y9, y10, y11, y12, y13, y14, none, none, none]) rfl (l := (ns.sum :: ns.take 10).zipIdx) (d := []) (σ := [some (.scr (ns.map .int)), some (.int ns.sum), some (.lst (l.map encB)), some (.lst (l.map encB)), none, none, none, none, none, none, none, none, none, none, none, none, none, none]) ⟨_, _, _, _, _, _, _, _, _, _, _, rfl⟩ (by
      rintro p hp d σ ⟨y4, y5, y6, y7, y8, y9, y10, y11, y12, y13, y14, rfl⟩
      have h1 := bz p.1 (List.fst_mem_of_mem_zipIdx hp)
      have h2 : p.2 ≤ 100 := by
        have := List.snd_lt_of_mem_zipIdx hp
        simp at this
        omega
      obtain ⟨v6, v7, v8, v9, v10, v11, v12, v13, v14, e⟩ := turn04 ok hs.sum h1 h2 (some (.scr (ns.map .int))) y6 y7 y8 y9 y10 y11 y12 y13 y14 none none none
      exact ⟨_, by simp, _, e, _, _, _, _, _, _, _, _, _, _, _, rfl⟩)
  subst hσ
  have it2 : (iEnum' (eBin kAdd (eLst (aCons (eVar 1) aNil)) (eSl (eVar 0) pNone (pSome (eC (.int 10)))))) [some (.scr (ns.map .int)), some (.int ns.sum), some (.lst (l.map encB)), some (.lst (l.map encB)), none, none, none, none, none, none, none, none, none, none, none, none, none, none] [] = .ok (((ns.sum :: ns.take 10).zipIdx).map fun p : Int × Nat => Val.tup [.int (p.2 : Int), .int p.1], fun st' => listOf st' (.lst ((ns.sum :: ns.take 10).map .int)) = some ((ns.sum :: ns.take 10).map .int)) [] := by
    rw [← enumV_map Val.int (ns.sum :: ns.take 10) 0]
    simp only [x_iEnum]
    have hz : 1 + min 10 ns.length ≤ 1000000 := by omega
    have hz2 : min 10 ns.length + 1 ≤ 1000000 := by omega
    have hz3 : min 10 ns.length ≤ 999999 := by omega
    simp [hc2, hz, hz2, hz3]
  have ef2 := x_sFor (t := .tp [.nm 4, .nm 5]) (body := tb) it2 rfl
  rw [f2] at ef2
  obtain ⟨w, d, s, m0, m2⟩ := end04
  refine ⟨[], ?_⟩
  refine toF_rt ?_
  have fr : flats twoV = true := by simp [twoV]
  have hR : [Val.tup [.int 1, .tup [.int 0, .int 1], .tup [.int 1, .int 1]], .tup [.int 3, .tup [.int 2, .int 1], .tup [.int (-1), .int 2]]] = twoV := rfl
  have lR : twoV.length = 2 := rfl
  generalize twoV = R at *
  generalize hB : sFor (iEnum' (eBin kAdd (eLst (aCons (eVar 1) aNil)) (eSl (eVar 0) pNone (pSome (eC (.int 10)))))) (.tp [.nm 4, .nm 5]) tb = B at ef2
  unfold tb at hB
  simp only [S_law, hB]
  simp [hc, intsOf_map, e, ef2, hR, lR, fr, w, d, s, m0, m2, PyData.eqv]
end
end Bd

namespace Bd
noncomputable section
open PySem L2
theorem all_mk (hlaw : LawHolds F_law) {P : Program} {w : World} {K : PySem.W.Frag} {h : Heap} {mg : Str → Option Value} {fa : Addr} (X : K.In h) (G : h.Ns mainGlobals mg) (hfa : mg "law" = some (.ref fa))
    {C_BadRow : Addr}
    {C_BadBead : Addr}
    {C_BadMoment : Addr}
    {t_FINEST : Tok}
    {t_FARTHEST : Tok}
    {t_HEAVIEST : Tok}
    {t_MOST : Tok}
    {f_is_number : Addr} {od_is_number an_is_number : Option Addr} {sl_is_number : Array (Option Value)} {oc_is_number kV_is_number dc_is_number pm_is_number cd_is_number ct_is_number : Value}
    {f_common : Addr} {od_common an_common : Option Addr} {sl_common : Array (Option Value)} {oc_common kV_common dc_common pm_common cd_common ct_common : Value}
    {f_lowest : Addr} {od_lowest an_lowest : Option Addr} {sl_lowest : Array (Option Value)} {oc_lowest kV_lowest dc_lowest pm_lowest cd_lowest ct_lowest : Value}
    {f_is_share : Addr} {od_is_share an_is_share : Option Addr} {sl_is_share : Array (Option Value)} {oc_is_share kV_is_share dc_is_share pm_is_share cd_is_share ct_is_share : Value}
    {f_added : Addr} {od_added an_added : Option Addr} {sl_added : Array (Option Value)} {oc_added kV_added dc_added pm_added cd_added ct_added : Value}
    {f_product : Addr} {od_product an_product : Option Addr} {sl_product : Array (Option Value)} {oc_product kV_product dc_product pm_product cd_product ct_product : Value}
    {f_quotient : Addr} {od_quotient an_quotient : Option Addr} {sl_quotient : Array (Option Value)} {oc_quotient kV_quotient dc_quotient pm_quotient cd_quotient ct_quotient : Value}
    {f_sign : Addr} {od_sign an_sign : Option Addr} {sl_sign : Array (Option Value)} {oc_sign kV_sign dc_sign pm_sign cd_sign ct_sign : Value}
    {f_is_mild : Addr} {od_is_mild an_is_mild : Option Addr} {sl_is_mild : Array (Option Value)} {oc_is_mild kV_is_mild dc_is_mild pm_is_mild cd_is_mild ct_is_mild : Value}
    {f_is_bead : Addr} {od_is_bead an_is_bead : Option Addr} {sl_is_bead : Array (Option Value)} {oc_is_bead kV_is_bead dc_is_bead pm_is_bead cd_is_bead ct_is_bead : Value}
    {f_check_row : Addr} {od_check_row an_check_row : Option Addr} {sl_check_row : Array (Option Value)} {oc_check_row kV_check_row dc_check_row pm_check_row cd_check_row ct_check_row : Value}
    {f_check_bead : Addr} {od_check_bead an_check_bead : Option Addr} {sl_check_bead : Array (Option Value)} {oc_check_bead kV_check_bead dc_check_bead pm_check_bead cd_check_bead ct_check_bead : Value}
    {f_check_stretch : Addr} {od_check_stretch an_check_stretch : Option Addr} {sl_check_stretch : Array (Option Value)} {oc_check_stretch kV_check_stretch dc_check_stretch pm_check_stretch cd_check_stretch ct_check_stretch : Value}
    {f_is_moment : Addr} {od_is_moment an_is_moment : Option Addr} {sl_is_moment : Array (Option Value)} {oc_is_moment kV_is_moment dc_is_moment pm_is_moment cd_is_moment ct_is_moment : Value}
    {f_check_moment : Addr} {od_check_moment an_check_moment : Option Addr} {sl_check_moment : Array (Option Value)} {oc_check_moment kV_check_moment dc_check_moment pm_check_moment cd_check_moment ct_check_moment : Value}
    {f_weight_in : Addr} {od_weight_in an_weight_in : Option Addr} {sl_weight_in : Array (Option Value)} {oc_weight_in kV_weight_in dc_weight_in pm_weight_in cd_weight_in ct_weight_in : Value}
    {f_sum_in : Addr} {od_sum_in an_sum_in : Option Addr} {sl_sum_in : Array (Option Value)} {oc_sum_in kV_sum_in dc_sum_in pm_sum_in cd_sum_in ct_sum_in : Value}
    {f_at_moment : Addr} {od_at_moment an_at_moment : Option Addr} {sl_at_moment : Array (Option Value)} {oc_at_moment kV_at_moment dc_at_moment pm_at_moment cd_at_moment ct_at_moment : Value}
    {f_line_in : Addr} {od_line_in an_line_in : Option Addr} {sl_line_in : Array (Option Value)} {oc_line_in kV_line_in dc_line_in pm_line_in cd_line_in ct_line_in : Value}
    {f_middle_in : Addr} {od_middle_in an_middle_in : Option Addr} {sl_middle_in : Array (Option Value)} {oc_middle_in kV_middle_in dc_middle_in pm_middle_in cd_middle_in ct_middle_in : Value}
    {f_weight_of : Addr} {od_weight_of an_weight_of : Option Addr} {sl_weight_of : Array (Option Value)} {oc_weight_of kV_weight_of dc_weight_of pm_weight_of cd_weight_of ct_weight_of : Value}
    {f_drive_of : Addr} {od_drive_of an_drive_of : Option Addr} {sl_drive_of : Array (Option Value)} {oc_drive_of kV_drive_of dc_drive_of pm_drive_of cd_drive_of ct_drive_of : Value}
    {f_straight : Addr} {od_straight an_straight : Option Addr} {sl_straight : Array (Option Value)} {oc_straight kV_straight dc_straight pm_straight cd_straight ct_straight : Value}
    {f_middle : Addr} {od_middle an_middle : Option Addr} {sl_middle : Array (Option Value)} {oc_middle kV_middle dc_middle pm_middle cd_middle ct_middle : Value}
    {f_law_number : Addr} {od_law_number an_law_number : Option Addr} {sl_law_number : Array (Option Value)} {oc_law_number kV_law_number dc_law_number pm_law_number cd_law_number ct_law_number : Value}
    {f_law_low : Addr} {od_law_low an_law_low : Option Addr} {sl_law_low : Array (Option Value)} {oc_law_low kV_law_low dc_law_low pm_law_low cd_law_low ct_law_low : Value}
    {f_law_sum : Addr} {od_law_sum an_law_sum : Option Addr} {sl_law_sum : Array (Option Value)} {oc_law_sum kV_law_sum dc_law_sum pm_law_sum cd_law_sum ct_law_sum : Value}
    {f_law_by : Addr} {od_law_by an_law_by : Option Addr} {sl_law_by : Array (Option Value)} {oc_law_by kV_law_by dc_law_by pm_law_by cd_law_by ct_law_by : Value}
    {f_law_there : Addr} {od_law_there an_law_there : Option Addr} {sl_law_there : Array (Option Value)} {oc_law_there kV_law_there dc_law_there pm_law_there cd_law_there ct_law_there : Value}
    {f_law_row : Addr} {od_law_row an_law_row : Option Addr} {sl_law_row : Array (Option Value)} {oc_law_row kV_law_row dc_law_row pm_law_row cd_law_row ct_law_row : Value}
    {T_law_row : Addr} {oc2_law_row : Value} {od2_law_row : Option Addr} {t2_law_row : Tok} {m2_law_row : Nat} {sl2_law_row : Array (Option Value)}
    {f_law_moment : Addr} {od_law_moment an_law_moment : Option Addr} {sl_law_moment : Array (Option Value)} {oc_law_moment kV_law_moment dc_law_moment pm_law_moment cd_law_moment ct_law_moment : Value}
    {f_law_whole : Addr} {od_law_whole an_law_whole : Option Addr} {sl_law_whole : Array (Option Value)} {oc_law_whole kV_law_whole dc_law_whole pm_law_whole cd_law_whole ct_law_whole : Value}
    {f_law_is_share : Addr} {od_law_is_share an_law_is_share : Option Addr} {sl_law_is_share : Array (Option Value)} {oc_law_is_share kV_law_is_share dc_law_is_share pm_law_is_share cd_law_is_share ct_law_is_share : Value}
    {f_law_stretch_right : Addr} {od_law_stretch_right an_law_stretch_right : Option Addr} {sl_law_stretch_right : Array (Option Value)} {oc_law_stretch_right kV_law_stretch_right dc_law_stretch_right pm_law_stretch_right cd_law_stretch_right ct_law_stretch_right : Value}
    {f_law : Addr} {od_law an_law : Option Addr} {sl_law : Array (Option Value)} {oc_law kV_law dc_law pm_law cd_law ct_law : Value}
    (eA_BadRow : PySem.W.nsIn K mainGlobals "BadRow" = some (some (.ref C_BadRow)))
    (eX_BadRow : PySem.W.excIn K C_BadRow [.type "ValueError", .type "Exception", .type "BaseException", .type "object"] "ValueError.__new__" = true)
    (eK_BadRow : PySem.W.keepIn K (.ref C_BadRow) = true)
    (eS_BadRow : PySem.W.subIn K (.ref C_BadRow) (.type "BaseException") = some true)
    (eT_BadRow : PySem.W.typeIn K (.ref C_BadRow) = some (.type "type"))
    (eA_BadBead : PySem.W.nsIn K mainGlobals "BadBead" = some (some (.ref C_BadBead)))
    (eX_BadBead : PySem.W.excIn K C_BadBead [.type "ValueError", .type "Exception", .type "BaseException", .type "object"] "ValueError.__new__" = true)
    (eK_BadBead : PySem.W.keepIn K (.ref C_BadBead) = true)
    (eS_BadBead : PySem.W.subIn K (.ref C_BadBead) (.type "BaseException") = some true)
    (eT_BadBead : PySem.W.typeIn K (.ref C_BadBead) = some (.type "type"))
    (eA_BadMoment : PySem.W.nsIn K mainGlobals "BadMoment" = some (some (.ref C_BadMoment)))
    (eX_BadMoment : PySem.W.excIn K C_BadMoment [.type "ValueError", .type "Exception", .type "BaseException", .type "object"] "ValueError.__new__" = true)
    (eK_BadMoment : PySem.W.keepIn K (.ref C_BadMoment) = true)
    (eS_BadMoment : PySem.W.subIn K (.ref C_BadMoment) (.type "BaseException") = some true)
    (eT_BadMoment : PySem.W.typeIn K (.ref C_BadMoment) = some (.type "type"))
    (zb_bool : PySem.W.nsIn K mainGlobals "bool" = some none)
    (zb_isinstance : PySem.W.nsIn K mainGlobals "isinstance" = some none)
    (zb_int : PySem.W.nsIn K mainGlobals "int" = some none)
    (zb_abs : PySem.W.nsIn K mainGlobals "abs" = some none)
    (zb_len : PySem.W.nsIn K mainGlobals "len" = some none)
    (zb_tuple : PySem.W.nsIn K mainGlobals "tuple" = some none)
    (zb_all : PySem.W.nsIn K mainGlobals "all" = some none)
    (zb_list : PySem.W.nsIn K mainGlobals "list" = some none)
    (zb_range : PySem.W.nsIn K mainGlobals "range" = some none)
    (zb_any : PySem.W.nsIn K mainGlobals "any" = some none)
    (zb_sum : PySem.W.nsIn K mainGlobals "sum" = some none)
    (zb_enumerate : PySem.W.nsIn K mainGlobals "enumerate" = some none)
    (zc_FINEST : PySem.W.nsIn K mainGlobals "FINEST" = some (some (.int 60 t_FINEST)))
    (zc_FARTHEST : PySem.W.nsIn K mainGlobals "FARTHEST" = some (some (.int 1000000 t_FARTHEST)))
    (zc_HEAVIEST : PySem.W.nsIn K mainGlobals "HEAVIEST" = some (some (.int 60 t_HEAVIEST)))
    (zc_MOST : PySem.W.nsIn K mainGlobals "MOST" = some (some (.int 10 t_MOST)))
    (a_is_number : PySem.W.nsIn K mainGlobals "is_number" = some (some (.ref f_is_number)))
    (l_is_number : K.lookup f_is_number = some ⟨oc_is_number, od_is_number, .func (PySem.W.fnOf "is_number" "is_number" (defArgs st_is_number) (defBody st_is_number) (defScope st_is_number) .none kV_is_number dc_is_number pm_is_number an_is_number cd_is_number ct_is_number), sl_is_number⟩)
    (c_is_number : PySem.W.codeIn K cd_is_number "is_number" = true)
    (k_is_number : PySem.W.keepIn K (.ref f_is_number) = true)
    (a_common : PySem.W.nsIn K mainGlobals "common" = some (some (.ref f_common)))
    (l_common : K.lookup f_common = some ⟨oc_common, od_common, .func (PySem.W.fnOf "common" "common" (defArgs st_common) (defBody st_common) (defScope st_common) .none kV_common dc_common pm_common an_common cd_common ct_common), sl_common⟩)
    (c_common : PySem.W.codeIn K cd_common "common" = true)
    (k_common : PySem.W.keepIn K (.ref f_common) = true)
    (a_lowest : PySem.W.nsIn K mainGlobals "lowest" = some (some (.ref f_lowest)))
    (l_lowest : K.lookup f_lowest = some ⟨oc_lowest, od_lowest, .func (PySem.W.fnOf "lowest" "lowest" (defArgs st_lowest) (defBody st_lowest) (defScope st_lowest) .none kV_lowest dc_lowest pm_lowest an_lowest cd_lowest ct_lowest), sl_lowest⟩)
    (c_lowest : PySem.W.codeIn K cd_lowest "lowest" = true)
    (k_lowest : PySem.W.keepIn K (.ref f_lowest) = true)
    (a_is_share : PySem.W.nsIn K mainGlobals "is_share" = some (some (.ref f_is_share)))
    (l_is_share : K.lookup f_is_share = some ⟨oc_is_share, od_is_share, .func (PySem.W.fnOf "is_share" "is_share" (defArgs st_is_share) (defBody st_is_share) (defScope st_is_share) .none kV_is_share dc_is_share pm_is_share an_is_share cd_is_share ct_is_share), sl_is_share⟩)
    (c_is_share : PySem.W.codeIn K cd_is_share "is_share" = true)
    (k_is_share : PySem.W.keepIn K (.ref f_is_share) = true)
    (a_added : PySem.W.nsIn K mainGlobals "added" = some (some (.ref f_added)))
    (l_added : K.lookup f_added = some ⟨oc_added, od_added, .func (PySem.W.fnOf "added" "added" (defArgs st_added) (defBody st_added) (defScope st_added) .none kV_added dc_added pm_added an_added cd_added ct_added), sl_added⟩)
    (c_added : PySem.W.codeIn K cd_added "added" = true)
    (k_added : PySem.W.keepIn K (.ref f_added) = true)
    (a_product : PySem.W.nsIn K mainGlobals "product" = some (some (.ref f_product)))
    (l_product : K.lookup f_product = some ⟨oc_product, od_product, .func (PySem.W.fnOf "product" "product" (defArgs st_product) (defBody st_product) (defScope st_product) .none kV_product dc_product pm_product an_product cd_product ct_product), sl_product⟩)
    (c_product : PySem.W.codeIn K cd_product "product" = true)
    (k_product : PySem.W.keepIn K (.ref f_product) = true)
    (a_quotient : PySem.W.nsIn K mainGlobals "quotient" = some (some (.ref f_quotient)))
    (l_quotient : K.lookup f_quotient = some ⟨oc_quotient, od_quotient, .func (PySem.W.fnOf "quotient" "quotient" (defArgs st_quotient) (defBody st_quotient) (defScope st_quotient) .none kV_quotient dc_quotient pm_quotient an_quotient cd_quotient ct_quotient), sl_quotient⟩)
    (c_quotient : PySem.W.codeIn K cd_quotient "quotient" = true)
    (k_quotient : PySem.W.keepIn K (.ref f_quotient) = true)
    (a_sign : PySem.W.nsIn K mainGlobals "sign" = some (some (.ref f_sign)))
    (l_sign : K.lookup f_sign = some ⟨oc_sign, od_sign, .func (PySem.W.fnOf "sign" "sign" (defArgs st_sign) (defBody st_sign) (defScope st_sign) .none kV_sign dc_sign pm_sign an_sign cd_sign ct_sign), sl_sign⟩)
    (c_sign : PySem.W.codeIn K cd_sign "sign" = true)
    (k_sign : PySem.W.keepIn K (.ref f_sign) = true)
    (a_is_mild : PySem.W.nsIn K mainGlobals "is_mild" = some (some (.ref f_is_mild)))
    (l_is_mild : K.lookup f_is_mild = some ⟨oc_is_mild, od_is_mild, .func (PySem.W.fnOf "is_mild" "is_mild" (defArgs st_is_mild) (defBody st_is_mild) (defScope st_is_mild) .none kV_is_mild dc_is_mild pm_is_mild an_is_mild cd_is_mild ct_is_mild), sl_is_mild⟩)
    (c_is_mild : PySem.W.codeIn K cd_is_mild "is_mild" = true)
    (k_is_mild : PySem.W.keepIn K (.ref f_is_mild) = true)
    (a_is_bead : PySem.W.nsIn K mainGlobals "is_bead" = some (some (.ref f_is_bead)))
    (l_is_bead : K.lookup f_is_bead = some ⟨oc_is_bead, od_is_bead, .func (PySem.W.fnOf "is_bead" "is_bead" (defArgs st_is_bead) (defBody st_is_bead) (defScope st_is_bead) .none kV_is_bead dc_is_bead pm_is_bead an_is_bead cd_is_bead ct_is_bead), sl_is_bead⟩)
    (c_is_bead : PySem.W.codeIn K cd_is_bead "is_bead" = true)
    (k_is_bead : PySem.W.keepIn K (.ref f_is_bead) = true)
    (a_check_row : PySem.W.nsIn K mainGlobals "check_row" = some (some (.ref f_check_row)))
    (l_check_row : K.lookup f_check_row = some ⟨oc_check_row, od_check_row, .func (PySem.W.fnOf "check_row" "check_row" (defArgs st_check_row) (defBody st_check_row) (defScope st_check_row) .none kV_check_row dc_check_row pm_check_row an_check_row cd_check_row ct_check_row), sl_check_row⟩)
    (c_check_row : PySem.W.codeIn K cd_check_row "check_row" = true)
    (k_check_row : PySem.W.keepIn K (.ref f_check_row) = true)
    (a_check_bead : PySem.W.nsIn K mainGlobals "check_bead" = some (some (.ref f_check_bead)))
    (l_check_bead : K.lookup f_check_bead = some ⟨oc_check_bead, od_check_bead, .func (PySem.W.fnOf "check_bead" "check_bead" (defArgs st_check_bead) (defBody st_check_bead) (defScope st_check_bead) .none kV_check_bead dc_check_bead pm_check_bead an_check_bead cd_check_bead ct_check_bead), sl_check_bead⟩)
    (c_check_bead : PySem.W.codeIn K cd_check_bead "check_bead" = true)
    (k_check_bead : PySem.W.keepIn K (.ref f_check_bead) = true)
    (a_check_stretch : PySem.W.nsIn K mainGlobals "check_stretch" = some (some (.ref f_check_stretch)))
    (l_check_stretch : K.lookup f_check_stretch = some ⟨oc_check_stretch, od_check_stretch, .func (PySem.W.fnOf "check_stretch" "check_stretch" (defArgs st_check_stretch) (defBody st_check_stretch) (defScope st_check_stretch) .none kV_check_stretch dc_check_stretch pm_check_stretch an_check_stretch cd_check_stretch ct_check_stretch), sl_check_stretch⟩)
    (c_check_stretch : PySem.W.codeIn K cd_check_stretch "check_stretch" = true)
    (k_check_stretch : PySem.W.keepIn K (.ref f_check_stretch) = true)
    (a_is_moment : PySem.W.nsIn K mainGlobals "is_moment" = some (some (.ref f_is_moment)))
    (l_is_moment : K.lookup f_is_moment = some ⟨oc_is_moment, od_is_moment, .func (PySem.W.fnOf "is_moment" "is_moment" (defArgs st_is_moment) (defBody st_is_moment) (defScope st_is_moment) .none kV_is_moment dc_is_moment pm_is_moment an_is_moment cd_is_moment ct_is_moment), sl_is_moment⟩)
    (c_is_moment : PySem.W.codeIn K cd_is_moment "is_moment" = true)
    (k_is_moment : PySem.W.keepIn K (.ref f_is_moment) = true)
    (a_check_moment : PySem.W.nsIn K mainGlobals "check_moment" = some (some (.ref f_check_moment)))
    (l_check_moment : K.lookup f_check_moment = some ⟨oc_check_moment, od_check_moment, .func (PySem.W.fnOf "check_moment" "check_moment" (defArgs st_check_moment) (defBody st_check_moment) (defScope st_check_moment) .none kV_check_moment dc_check_moment pm_check_moment an_check_moment cd_check_moment ct_check_moment), sl_check_moment⟩)
    (c_check_moment : PySem.W.codeIn K cd_check_moment "check_moment" = true)
    (k_check_moment : PySem.W.keepIn K (.ref f_check_moment) = true)
    (a_weight_in : PySem.W.nsIn K mainGlobals "weight_in" = some (some (.ref f_weight_in)))
    (l_weight_in : K.lookup f_weight_in = some ⟨oc_weight_in, od_weight_in, .func (PySem.W.fnOf "weight_in" "weight_in" (defArgs st_weight_in) (defBody st_weight_in) (defScope st_weight_in) .none kV_weight_in dc_weight_in pm_weight_in an_weight_in cd_weight_in ct_weight_in), sl_weight_in⟩)
    (c_weight_in : PySem.W.codeIn K cd_weight_in "weight_in" = true)
    (k_weight_in : PySem.W.keepIn K (.ref f_weight_in) = true)
    (a_sum_in : PySem.W.nsIn K mainGlobals "sum_in" = some (some (.ref f_sum_in)))
    (l_sum_in : K.lookup f_sum_in = some ⟨oc_sum_in, od_sum_in, .func (PySem.W.fnOf "sum_in" "sum_in" (defArgs st_sum_in) (defBody st_sum_in) (defScope st_sum_in) .none kV_sum_in dc_sum_in pm_sum_in an_sum_in cd_sum_in ct_sum_in), sl_sum_in⟩)
    (c_sum_in : PySem.W.codeIn K cd_sum_in "sum_in" = true)
    (k_sum_in : PySem.W.keepIn K (.ref f_sum_in) = true)
    (a_at_moment : PySem.W.nsIn K mainGlobals "at_moment" = some (some (.ref f_at_moment)))
    (l_at_moment : K.lookup f_at_moment = some ⟨oc_at_moment, od_at_moment, .func (PySem.W.fnOf "at_moment" "at_moment" (defArgs st_at_moment) (defBody st_at_moment) (defScope st_at_moment) .none kV_at_moment dc_at_moment pm_at_moment an_at_moment cd_at_moment ct_at_moment), sl_at_moment⟩)
    (c_at_moment : PySem.W.codeIn K cd_at_moment "at_moment" = true)
    (k_at_moment : PySem.W.keepIn K (.ref f_at_moment) = true)
    (a_line_in : PySem.W.nsIn K mainGlobals "line_in" = some (some (.ref f_line_in)))
    (l_line_in : K.lookup f_line_in = some ⟨oc_line_in, od_line_in, .func (PySem.W.fnOf "line_in" "line_in" (defArgs st_line_in) (defBody st_line_in) (defScope st_line_in) .none kV_line_in dc_line_in pm_line_in an_line_in cd_line_in ct_line_in), sl_line_in⟩)
    (c_line_in : PySem.W.codeIn K cd_line_in "line_in" = true)
    (k_line_in : PySem.W.keepIn K (.ref f_line_in) = true)
    (a_middle_in : PySem.W.nsIn K mainGlobals "middle_in" = some (some (.ref f_middle_in)))
    (l_middle_in : K.lookup f_middle_in = some ⟨oc_middle_in, od_middle_in, .func (PySem.W.fnOf "middle_in" "middle_in" (defArgs st_middle_in) (defBody st_middle_in) (defScope st_middle_in) .none kV_middle_in dc_middle_in pm_middle_in an_middle_in cd_middle_in ct_middle_in), sl_middle_in⟩)
    (c_middle_in : PySem.W.codeIn K cd_middle_in "middle_in" = true)
    (k_middle_in : PySem.W.keepIn K (.ref f_middle_in) = true)
    (a_weight_of : PySem.W.nsIn K mainGlobals "weight_of" = some (some (.ref f_weight_of)))
    (l_weight_of : K.lookup f_weight_of = some ⟨oc_weight_of, od_weight_of, .func (PySem.W.fnOf "weight_of" "weight_of" (defArgs st_weight_of) (defBody st_weight_of) (defScope st_weight_of) .none kV_weight_of dc_weight_of pm_weight_of an_weight_of cd_weight_of ct_weight_of), sl_weight_of⟩)
    (c_weight_of : PySem.W.codeIn K cd_weight_of "weight_of" = true)
    (k_weight_of : PySem.W.keepIn K (.ref f_weight_of) = true)
    (a_drive_of : PySem.W.nsIn K mainGlobals "drive_of" = some (some (.ref f_drive_of)))
    (l_drive_of : K.lookup f_drive_of = some ⟨oc_drive_of, od_drive_of, .func (PySem.W.fnOf "drive_of" "drive_of" (defArgs st_drive_of) (defBody st_drive_of) (defScope st_drive_of) .none kV_drive_of dc_drive_of pm_drive_of an_drive_of cd_drive_of ct_drive_of), sl_drive_of⟩)
    (c_drive_of : PySem.W.codeIn K cd_drive_of "drive_of" = true)
    (k_drive_of : PySem.W.keepIn K (.ref f_drive_of) = true)
    (a_straight : PySem.W.nsIn K mainGlobals "straight" = some (some (.ref f_straight)))
    (l_straight : K.lookup f_straight = some ⟨oc_straight, od_straight, .func (PySem.W.fnOf "straight" "straight" (defArgs st_straight) (defBody st_straight) (defScope st_straight) .none kV_straight dc_straight pm_straight an_straight cd_straight ct_straight), sl_straight⟩)
    (c_straight : PySem.W.codeIn K cd_straight "straight" = true)
    (k_straight : PySem.W.keepIn K (.ref f_straight) = true)
    (a_middle : PySem.W.nsIn K mainGlobals "middle" = some (some (.ref f_middle)))
    (l_middle : K.lookup f_middle = some ⟨oc_middle, od_middle, .func (PySem.W.fnOf "middle" "middle" (defArgs st_middle) (defBody st_middle) (defScope st_middle) .none kV_middle dc_middle pm_middle an_middle cd_middle ct_middle), sl_middle⟩)
    (c_middle : PySem.W.codeIn K cd_middle "middle" = true)
    (k_middle : PySem.W.keepIn K (.ref f_middle) = true)
    (a_law_number : PySem.W.nsIn K mainGlobals "_law_number" = some (some (.ref f_law_number)))
    (l_law_number : K.lookup f_law_number = some ⟨oc_law_number, od_law_number, .func (PySem.W.fnOf "_law_number" "_law_number" (defArgs st_law_number) (defBody st_law_number) (defScope st_law_number) .none kV_law_number dc_law_number pm_law_number an_law_number cd_law_number ct_law_number), sl_law_number⟩)
    (c_law_number : PySem.W.codeIn K cd_law_number "_law_number" = true)
    (k_law_number : PySem.W.keepIn K (.ref f_law_number) = true)
    (a_law_low : PySem.W.nsIn K mainGlobals "_law_low" = some (some (.ref f_law_low)))
    (l_law_low : K.lookup f_law_low = some ⟨oc_law_low, od_law_low, .func (PySem.W.fnOf "_law_low" "_law_low" (defArgs st_law_low) (defBody st_law_low) (defScope st_law_low) .none kV_law_low dc_law_low pm_law_low an_law_low cd_law_low ct_law_low), sl_law_low⟩)
    (c_law_low : PySem.W.codeIn K cd_law_low "_law_low" = true)
    (k_law_low : PySem.W.keepIn K (.ref f_law_low) = true)
    (a_law_sum : PySem.W.nsIn K mainGlobals "_law_sum" = some (some (.ref f_law_sum)))
    (l_law_sum : K.lookup f_law_sum = some ⟨oc_law_sum, od_law_sum, .func (PySem.W.fnOf "_law_sum" "_law_sum" (defArgs st_law_sum) (defBody st_law_sum) (defScope st_law_sum) .none kV_law_sum dc_law_sum pm_law_sum an_law_sum cd_law_sum ct_law_sum), sl_law_sum⟩)
    (c_law_sum : PySem.W.codeIn K cd_law_sum "_law_sum" = true)
    (k_law_sum : PySem.W.keepIn K (.ref f_law_sum) = true)
    (a_law_by : PySem.W.nsIn K mainGlobals "_law_by" = some (some (.ref f_law_by)))
    (l_law_by : K.lookup f_law_by = some ⟨oc_law_by, od_law_by, .func (PySem.W.fnOf "_law_by" "_law_by" (defArgs st_law_by) (defBody st_law_by) (defScope st_law_by) .none kV_law_by dc_law_by pm_law_by an_law_by cd_law_by ct_law_by), sl_law_by⟩)
    (c_law_by : PySem.W.codeIn K cd_law_by "_law_by" = true)
    (k_law_by : PySem.W.keepIn K (.ref f_law_by) = true)
    (a_law_there : PySem.W.nsIn K mainGlobals "_law_there" = some (some (.ref f_law_there)))
    (l_law_there : K.lookup f_law_there = some ⟨oc_law_there, od_law_there, .func (PySem.W.fnOf "_law_there" "_law_there" (defArgs st_law_there) (defBody st_law_there) (defScope st_law_there) .none kV_law_there dc_law_there pm_law_there an_law_there cd_law_there ct_law_there), sl_law_there⟩)
    (c_law_there : PySem.W.codeIn K cd_law_there "_law_there" = true)
    (k_law_there : PySem.W.keepIn K (.ref f_law_there) = true)
    (a_law_row : PySem.W.nsIn K mainGlobals "_law_row" = some (some (.ref f_law_row)))
    (l_law_row : K.lookup f_law_row = some ⟨oc_law_row, od_law_row, .func (PySem.W.fnOf "_law_row" "_law_row" (defArgs st_law_row) (defBody st_law_row) (defScope st_law_row) (.ref T_law_row) kV_law_row dc_law_row pm_law_row an_law_row cd_law_row ct_law_row), sl_law_row⟩)
    (d_law_row : K.lookup T_law_row = some ⟨oc2_law_row, od2_law_row, .seq #[.int 10 t2_law_row] m2_law_row, sl2_law_row⟩)
    (c_law_row : PySem.W.codeIn K cd_law_row "_law_row" = true)
    (k_law_row : PySem.W.keepIn K (.ref f_law_row) = true)
    (a_law_moment : PySem.W.nsIn K mainGlobals "_law_moment" = some (some (.ref f_law_moment)))
    (l_law_moment : K.lookup f_law_moment = some ⟨oc_law_moment, od_law_moment, .func (PySem.W.fnOf "_law_moment" "_law_moment" (defArgs st_law_moment) (defBody st_law_moment) (defScope st_law_moment) .none kV_law_moment dc_law_moment pm_law_moment an_law_moment cd_law_moment ct_law_moment), sl_law_moment⟩)
    (c_law_moment : PySem.W.codeIn K cd_law_moment "_law_moment" = true)
    (k_law_moment : PySem.W.keepIn K (.ref f_law_moment) = true)
    (a_law_whole : PySem.W.nsIn K mainGlobals "_law_whole" = some (some (.ref f_law_whole)))
    (l_law_whole : K.lookup f_law_whole = some ⟨oc_law_whole, od_law_whole, .func (PySem.W.fnOf "_law_whole" "_law_whole" (defArgs st_law_whole) (defBody st_law_whole) (defScope st_law_whole) .none kV_law_whole dc_law_whole pm_law_whole an_law_whole cd_law_whole ct_law_whole), sl_law_whole⟩)
    (c_law_whole : PySem.W.codeIn K cd_law_whole "_law_whole" = true)
    (k_law_whole : PySem.W.keepIn K (.ref f_law_whole) = true)
    (a_law_is_share : PySem.W.nsIn K mainGlobals "_law_is_share" = some (some (.ref f_law_is_share)))
    (l_law_is_share : K.lookup f_law_is_share = some ⟨oc_law_is_share, od_law_is_share, .func (PySem.W.fnOf "_law_is_share" "_law_is_share" (defArgs st_law_is_share) (defBody st_law_is_share) (defScope st_law_is_share) .none kV_law_is_share dc_law_is_share pm_law_is_share an_law_is_share cd_law_is_share ct_law_is_share), sl_law_is_share⟩)
    (c_law_is_share : PySem.W.codeIn K cd_law_is_share "_law_is_share" = true)
    (k_law_is_share : PySem.W.keepIn K (.ref f_law_is_share) = true)
    (a_law_stretch_right : PySem.W.nsIn K mainGlobals "_law_stretch_right" = some (some (.ref f_law_stretch_right)))
    (l_law_stretch_right : K.lookup f_law_stretch_right = some ⟨oc_law_stretch_right, od_law_stretch_right, .func (PySem.W.fnOf "_law_stretch_right" "_law_stretch_right" (defArgs st_law_stretch_right) (defBody st_law_stretch_right) (defScope st_law_stretch_right) .none kV_law_stretch_right dc_law_stretch_right pm_law_stretch_right an_law_stretch_right cd_law_stretch_right ct_law_stretch_right), sl_law_stretch_right⟩)
    (c_law_stretch_right : PySem.W.codeIn K cd_law_stretch_right "_law_stretch_right" = true)
    (k_law_stretch_right : PySem.W.keepIn K (.ref f_law_stretch_right) = true)
    (a_law : PySem.W.nsIn K mainGlobals "law" = some (some (.ref f_law)))
    (l_law : K.lookup f_law = some ⟨oc_law, od_law, .func (PySem.W.fnOf "law" "law" (defArgs st_law) (defBody st_law) (defScope st_law) .none kV_law dc_law pm_law an_law cd_law ct_law), sl_law⟩)
    (c_law : PySem.W.codeIn K cd_law "law" = true)
    (k_law : PySem.W.keepIn K (.ref f_law) = true) :
    ∃ fd : FuncData, (∀ (s : Shared) (u : Value), BindsTo s fd ⟨[u], []⟩ [("_law_script", u)]) ∧ ∀ base : Heap, K.In base → base.Ns mainGlobals mg → FnOk P w K mg base (L2N.CX P w) 9 fa fd ["_law_script"] (spLaw K) := by
  have e := hfa.symm.trans (PySem.W.mg_of X G a_law)
  cases e
  have T : Txt K mg := ⟨PySem.W.mg_none_of X G zb_bool, PySem.W.mg_none_of X G zb_isinstance, PySem.W.mg_none_of X G zb_int, PySem.W.mg_none_of X G zb_abs, PySem.W.mg_none_of X G zb_len, PySem.W.mg_none_of X G zb_tuple, PySem.W.mg_none_of X G zb_all, PySem.W.mg_none_of X G zb_list, PySem.W.mg_none_of X G zb_range, PySem.W.mg_none_of X G zb_any, PySem.W.mg_none_of X G zb_sum, PySem.W.mg_none_of X G zb_enumerate, ⟨_, PySem.W.mg_of X G eA_BadRow, eX_BadRow, eK_BadRow, eS_BadRow, eT_BadRow⟩, ⟨_, PySem.W.mg_of X G eA_BadBead, eX_BadBead, eK_BadBead, eS_BadBead, eT_BadBead⟩, ⟨_, PySem.W.mg_of X G eA_BadMoment, eX_BadMoment, eK_BadMoment, eS_BadMoment, eT_BadMoment⟩, ⟨_, PySem.W.mg_of X G zc_FINEST⟩, ⟨_, PySem.W.mg_of X G zc_FARTHEST⟩, ⟨_, PySem.W.mg_of X G zc_HEAVIEST⟩, ⟨_, PySem.W.mg_of X G zc_MOST⟩⟩
  have D_is_number := fun_mk (st := st_is_number) l_is_number c_is_number k_is_number
  have b_is_number := D_is_number.binds (ps := ["thing"]) fun _ _ _ _ _ _ us hl => match us, hl with | [_], _ => rfl
  have D_common := fun_mk (st := st_common) l_common c_common k_common
  have b_common := D_common.binds (ps := ["one", "other"]) fun _ _ _ _ _ _ us hl => match us, hl with | [_, _], _ => rfl
  have D_lowest := fun_mk (st := st_lowest) l_lowest c_lowest k_lowest
  have b_lowest := D_lowest.binds (ps := ["top", "bottom"]) fun _ _ _ _ _ _ us hl => match us, hl with | [_, _], _ => rfl
  have D_is_share := fun_mk (st := st_is_share) l_is_share c_is_share k_is_share
  have b_is_share := D_is_share.binds (ps := ["thing"]) fun _ _ _ _ _ _ us hl => match us, hl with | [_], _ => rfl
  have D_added := fun_mk (st := st_added) l_added c_added k_added
  have b_added := D_added.binds (ps := ["one", "other"]) fun _ _ _ _ _ _ us hl => match us, hl with | [_, _], _ => rfl
  have D_product := fun_mk (st := st_product) l_product c_product k_product
  have b_product := D_product.binds (ps := ["one", "other"]) fun _ _ _ _ _ _ us hl => match us, hl with | [_, _], _ => rfl
  have D_quotient := fun_mk (st := st_quotient) l_quotient c_quotient k_quotient
  have b_quotient := D_quotient.binds (ps := ["one", "other"]) fun _ _ _ _ _ _ us hl => match us, hl with | [_, _], _ => rfl
  have D_sign := fun_mk (st := st_sign) l_sign c_sign k_sign
  have b_sign := D_sign.binds (ps := ["one", "other"]) fun _ _ _ _ _ _ us hl => match us, hl with | [_, _], _ => rfl
  have D_is_mild := fun_mk (st := st_is_mild) l_is_mild c_is_mild k_is_mild
  have b_is_mild := D_is_mild.binds (ps := ["thing"]) fun _ _ _ _ _ _ us hl => match us, hl with | [_], _ => rfl
  have D_is_bead := fun_mk (st := st_is_bead) l_is_bead c_is_bead k_is_bead
  have b_is_bead := D_is_bead.binds (ps := ["thing"]) fun _ _ _ _ _ _ us hl => match us, hl with | [_], _ => rfl
  have D_check_row := fun_mk (st := st_check_row) l_check_row c_check_row k_check_row
  have b_check_row := D_check_row.binds (ps := ["row"]) fun _ _ _ _ _ _ us hl => match us, hl with | [_], _ => rfl
  have D_check_bead := fun_mk (st := st_check_bead) l_check_bead c_check_bead k_check_bead
  have b_check_bead := D_check_bead.binds (ps := ["row", "bead"]) fun _ _ _ _ _ _ us hl => match us, hl with | [_, _], _ => rfl
  have D_check_stretch := fun_mk (st := st_check_stretch) l_check_stretch c_check_stretch k_check_stretch
  have b_check_stretch := D_check_stretch.binds (ps := ["row", "first", "last"]) fun _ _ _ _ _ _ us hl => match us, hl with | [_, _, _], _ => rfl
  have D_is_moment := fun_mk (st := st_is_moment) l_is_moment c_is_moment k_is_moment
  have b_is_moment := D_is_moment.binds (ps := ["thing"]) fun _ _ _ _ _ _ us hl => match us, hl with | [_], _ => rfl
  have D_check_moment := fun_mk (st := st_check_moment) l_check_moment c_check_moment k_check_moment
  have b_check_moment := D_check_moment.binds (ps := ["moment"]) fun _ _ _ _ _ _ us hl => match us, hl with | [_], _ => rfl
  have D_weight_in := fun_mk (st := st_weight_in) l_weight_in c_weight_in k_weight_in
  have b_weight_in := D_weight_in.binds (ps := ["row", "first", "last"]) fun _ _ _ _ _ _ us hl => match us, hl with | [_, _, _], _ => rfl
  have D_sum_in := fun_mk (st := st_sum_in) l_sum_in c_sum_in k_sum_in
  have b_sum_in := D_sum_in.binds (ps := ["row", "first", "last", "part"]) fun _ _ _ _ _ _ us hl => match us, hl with | [_, _, _, _], _ => rfl
  have D_at_moment := fun_mk (st := st_at_moment) l_at_moment c_at_moment k_at_moment
  have b_at_moment := D_at_moment.binds (ps := ["line", "moment"]) fun _ _ _ _ _ _ us hl => match us, hl with | [_, _], _ => rfl
  have D_line_in := fun_mk (st := st_line_in) l_line_in c_line_in k_line_in
  have b_line_in := D_line_in.binds (ps := ["row", "first", "last"]) fun _ _ _ _ _ _ us hl => match us, hl with | [_, _, _], _ => rfl
  have D_middle_in := fun_mk (st := st_middle_in) l_middle_in c_middle_in k_middle_in
  have b_middle_in := D_middle_in.binds (ps := ["row", "first", "last", "moment"]) fun _ _ _ _ _ _ us hl => match us, hl with | [_, _, _, _], _ => rfl
  have D_weight_of := fun_mk (st := st_weight_of) l_weight_of c_weight_of k_weight_of
  have b_weight_of := D_weight_of.binds (ps := ["row", "first", "last"]) fun _ _ _ _ _ _ us hl => match us, hl with | [_, _, _], _ => rfl
  have D_drive_of := fun_mk (st := st_drive_of) l_drive_of c_drive_of k_drive_of
  have b_drive_of := D_drive_of.binds (ps := ["row", "first", "last"]) fun _ _ _ _ _ _ us hl => match us, hl with | [_, _, _], _ => rfl
  have D_straight := fun_mk (st := st_straight) l_straight c_straight k_straight
  have b_straight := D_straight.binds (ps := ["row", "bead", "moment"]) fun _ _ _ _ _ _ us hl => match us, hl with | [_, _, _], _ => rfl
  have D_middle := fun_mk (st := st_middle) l_middle c_middle k_middle
  have b_middle := D_middle.binds (ps := ["row", "first", "last", "moment"]) fun _ _ _ _ _ _ us hl => match us, hl with | [_, _, _, _], _ => rfl
  have D_law_number := fun_mk (st := st_law_number) l_law_number c_law_number k_law_number
  have b_law_number := D_law_number.binds (ps := ["_law_cell", "_law_at", "_law_whole_here"]) fun _ _ _ _ _ _ us hl => match us, hl with | [_, _, _], _ => rfl
  have D_law_low := fun_mk (st := st_law_low) l_law_low c_law_low k_law_low
  have b_law_low := D_law_low.binds (ps := ["_law_top", "_law_bottom"]) fun _ _ _ _ _ _ us hl => match us, hl with | [_, _], _ => rfl
  have D_law_sum := fun_mk (st := st_law_sum) l_law_sum c_law_sum k_law_sum
  have b_law_sum := D_law_sum.binds (ps := ["_law_one", "_law_other"]) fun _ _ _ _ _ _ us hl => match us, hl with | [_, _], _ => rfl
  have D_law_by := fun_mk (st := st_law_by) l_law_by c_law_by k_law_by
  have b_law_by := D_law_by.binds (ps := ["_law_one", "_law_other"]) fun _ _ _ _ _ _ us hl => match us, hl with | [_, _], _ => rfl
  have D_law_there := fun_mk (st := st_law_there) l_law_there c_law_there k_law_there
  have b_law_there := D_law_there.binds (ps := ["_law_line", "_law_moment_here"]) fun _ _ _ _ _ _ us hl => match us, hl with | [_, _], _ => rfl
  have D_law_row := funD_mk (st := st_law_row) l_law_row c_law_row k_law_row d_law_row
  have b_law_row_d := D_law_row.binds1 (ps := ["_law_script", "_law_by_here", "_law_alike", "_law_most"]) 3 0 (by simp) rfl fun T kV doc pm an cdv ct us its hl hl2 => match us, its, hl, hl2 with | [_, _, _], [_], _, _ => ⟨_, rfl, rfl⟩
  have D_law_moment := fun_mk (st := st_law_moment) l_law_moment c_law_moment k_law_moment
  have b_law_moment := D_law_moment.binds (ps := ["_law_number_here"]) fun _ _ _ _ _ _ us hl => match us, hl with | [_], _ => rfl
  have D_law_whole := fun_mk (st := st_law_whole) l_law_whole c_law_whole k_law_whole
  have b_law_whole := D_law_whole.binds (ps := ["_law_found"]) fun _ _ _ _ _ _ us hl => match us, hl with | [_], _ => rfl
  have D_law_is_share := fun_mk (st := st_law_is_share) l_law_is_share c_law_is_share k_law_is_share
  have b_law_is_share := D_law_is_share.binds (ps := ["_law_found"]) fun _ _ _ _ _ _ us hl => match us, hl with | [_], _ => rfl
  have D_law_stretch_right := fun_mk (st := st_law_stretch_right) l_law_stretch_right c_law_stretch_right k_law_stretch_right
  have b_law_stretch_right := D_law_stretch_right.binds (ps := ["_law_row_here", "_law_first", "_law_last", "_law_moment_here"]) fun _ _ _ _ _ _ us hl => match us, hl with | [_, _, _, _], _ => rfl
  have D_law := fun_mk (st := st_law) l_law c_law k_law
  refine ⟨PySem.W.fnOf "law" "law" (defArgs st_law) (defBody st_law) (defScope st_law) .none kV_law dc_law pm_law an_law cd_law ct_law, fun s u => .of_eq rfl, fun base _ _ => ?_⟩
  have K_is_number := mk_is_number (P := P) (w := w) (base := base) T D_is_number (PySem.W.mg_of X G a_is_number) b_is_number 
  have K_common := mk_common (P := P) (w := w) (base := base) T D_common (PySem.W.mg_of X G a_common) b_common 
  have K_lowest := mk_lowest (P := P) (w := w) (base := base) T D_lowest (PySem.W.mg_of X G a_lowest) b_lowest K_common
  have K_is_share := mk_is_share (P := P) (w := w) (base := base) T D_is_share (PySem.W.mg_of X G a_is_share) b_is_share K_is_number K_common
  have K_added := mk_added (P := P) (w := w) (base := base) T D_added (PySem.W.mg_of X G a_added) b_added K_lowest
  have K_product := mk_product (P := P) (w := w) (base := base) T D_product (PySem.W.mg_of X G a_product) b_product K_lowest
  have K_quotient := mk_quotient (P := P) (w := w) (base := base) T D_quotient (PySem.W.mg_of X G a_quotient) b_quotient K_lowest
  have K_sign := mk_sign (P := P) (w := w) (base := base) T D_sign (PySem.W.mg_of X G a_sign) b_sign 
  have K_is_mild := mk_is_mild (P := P) (w := w) (base := base) T D_is_mild (PySem.W.mg_of X G a_is_mild) b_is_mild K_is_share
  have K_is_bead := mk_is_bead (P := P) (w := w) (base := base) T D_is_bead (PySem.W.mg_of X G a_is_bead) b_is_bead K_is_number K_is_mild
  have K_check_row := mk_check_row (P := P) (w := w) (base := base) T D_check_row (PySem.W.mg_of X G a_check_row) b_check_row K_is_bead K_sign
  have K_check_bead := mk_check_bead (P := P) (w := w) (base := base) T D_check_bead (PySem.W.mg_of X G a_check_bead) b_check_bead K_is_number
  have K_check_stretch := mk_check_stretch (P := P) (w := w) (base := base) T D_check_stretch (PySem.W.mg_of X G a_check_stretch) b_check_stretch K_check_bead
  have K_is_moment := mk_is_moment (P := P) (w := w) (base := base) T D_is_moment (PySem.W.mg_of X G a_is_moment) b_is_moment K_is_share
  have K_check_moment := mk_check_moment (P := P) (w := w) (base := base) T D_check_moment (PySem.W.mg_of X G a_check_moment) b_check_moment K_is_moment
  have K_weight_in := mk_weight_in (P := P) (w := w) (base := base) T D_weight_in (PySem.W.mg_of X G a_weight_in) b_weight_in 
  have K_sum_in := mk_sum_in (P := P) (w := w) (base := base) T D_sum_in (PySem.W.mg_of X G a_sum_in) b_sum_in K_product K_added
  have K_at_moment := mk_at_moment (P := P) (w := w) (base := base) T D_at_moment (PySem.W.mg_of X G a_at_moment) b_at_moment K_product K_added
  have K_line_in := mk_line_in (P := P) (w := w) (base := base) T D_line_in (PySem.W.mg_of X G a_line_in) b_line_in K_weight_in K_sum_in K_quotient
  have K_middle_in := mk_middle_in (P := P) (w := w) (base := base) T D_middle_in (PySem.W.mg_of X G a_middle_in) b_middle_in K_line_in K_at_moment
  have K_weight_of := mk_weight_of (P := P) (w := w) (base := base) T D_weight_of (PySem.W.mg_of X G a_weight_of) b_weight_of K_check_row K_check_stretch K_weight_in
  have K_drive_of := mk_drive_of (P := P) (w := w) (base := base) T D_drive_of (PySem.W.mg_of X G a_drive_of) b_drive_of K_check_row K_check_stretch K_sum_in
  have K_straight := mk_straight (P := P) (w := w) (base := base) T D_straight (PySem.W.mg_of X G a_straight) b_straight K_check_row K_check_bead K_check_moment K_middle_in
  have K_middle := mk_middle (P := P) (w := w) (base := base) T D_middle (PySem.W.mg_of X G a_middle) b_middle K_check_row K_check_stretch K_check_moment K_middle_in
  have K_law_number := mk_law_number (P := P) (w := w) (base := base) T D_law_number (PySem.W.mg_of X G a_law_number) b_law_number 
  have K_law_low := mk_law_low (P := P) (w := w) (base := base) T D_law_low (PySem.W.mg_of X G a_law_low) b_law_low 
  have K_law_sum := mk_law_sum (P := P) (w := w) (base := base) T D_law_sum (PySem.W.mg_of X G a_law_sum) b_law_sum K_law_low
  have K_law_by := mk_law_by (P := P) (w := w) (base := base) T D_law_by (PySem.W.mg_of X G a_law_by) b_law_by K_law_low
  have K_law_there := mk_law_there (P := P) (w := w) (base := base) T D_law_there (PySem.W.mg_of X G a_law_there) b_law_there K_law_by K_law_sum
  have K_law_row_d := mk_law_row_d (P := P) (w := w) (base := base) T D_law_row (PySem.W.mg_of X G a_law_row) b_law_row_d K_law_number K_law_low
  have K_law_moment := mk_law_moment (P := P) (w := w) (base := base) T D_law_moment (PySem.W.mg_of X G a_law_moment) b_law_moment K_law_low
  have K_law_whole := mk_law_whole (P := P) (w := w) (base := base) T D_law_whole (PySem.W.mg_of X G a_law_whole) b_law_whole 
  have K_law_is_share := mk_law_is_share (P := P) (w := w) (base := base) T D_law_is_share (PySem.W.mg_of X G a_law_is_share) b_law_is_share K_law_whole K_law_low
  have K_law_stretch_right := mk_law_stretch_right (P := P) (w := w) (base := base) T D_law_stretch_right (PySem.W.mg_of X G a_law_stretch_right) b_law_stretch_right K_law_by K_law_sum K_law_there K_weight_of K_middle K_drive_of K_law_is_share K_law_whole
  exact (ok_law T D_law K_law_number K_law_moment K_law_stretch_right K_straight K_law_there K_law_is_share K_middle K_weight_of K_law_by K_law_sum K_drive_of K_law_row_d).imp (law_imp hlaw)
end
end Bd
set_option maxRecDepth 100000 in
set_option maxHeartbeats 0 in
open PySem PySem.W PyProof.Rows in
theorem PySem.Challenge.cw_beadway_k04_whole_middles_holds : PySem.Challenge.rw_beadway_k04_whole_middles.Holds := by
  w_on; o_law; k_head; (case hw => w_witness2)
  k_fill
  refine Bd.walk_law (l := PySem.Challenge.rw_beadway_k04_whole_middles) (k := 9) rfl rfl ⟨rfl, by decide, by decide⟩ (fun w h Y => PySem.W.kIn_of Y) ?F
  case F =>
    intro w mg fa h KX G hmg
    refine' Bd.all_mk Bd.law_true KX G hmg ?eA_BadRow ?eX_BadRow ?eK_BadRow ?eS_BadRow ?eT_BadRow ?eA_BadBead ?eX_BadBead ?eK_BadBead ?eS_BadBead ?eT_BadBead ?eA_BadMoment ?eX_BadMoment ?eK_BadMoment ?eS_BadMoment ?eT_BadMoment ?zb_bool ?zb_isinstance ?zb_int ?zb_abs ?zb_len ?zb_tuple ?zb_all ?zb_list ?zb_range ?zb_any ?zb_sum ?zb_enumerate ?zc_FINEST ?zc_FARTHEST ?zc_HEAVIEST ?zc_MOST ?a_is_number ?l_is_number ?c_is_number ?k_is_number ?a_common ?l_common ?c_common ?k_common ?a_lowest ?l_lowest ?c_lowest ?k_lowest ?a_is_share ?l_is_share ?c_is_share ?k_is_share ?a_added ?l_added ?c_added ?k_added ?a_product ?l_product ?c_product ?k_product ?a_quotient ?l_quotient ?c_quotient ?k_quotient ?a_sign ?l_sign ?c_sign ?k_sign ?a_is_mild ?l_is_mild ?c_is_mild ?k_is_mild ?a_is_bead ?l_is_bead ?c_is_bead ?k_is_bead ?a_check_row ?l_check_row ?c_check_row ?k_check_row ?a_check_bead ?l_check_bead ?c_check_bead ?k_check_bead ?a_check_stretch ?l_check_stretch ?c_check_stretch ?k_check_stretch ?a_is_moment ?l_is_moment ?c_is_moment ?k_is_moment ?a_check_moment ?l_check_moment ?c_check_moment ?k_check_moment ?a_weight_in ?l_weight_in ?c_weight_in ?k_weight_in ?a_sum_in ?l_sum_in ?c_sum_in ?k_sum_in ?a_at_moment ?l_at_moment ?c_at_moment ?k_at_moment ?a_line_in ?l_line_in ?c_line_in ?k_line_in ?a_middle_in ?l_middle_in ?c_middle_in ?k_middle_in ?a_weight_of ?l_weight_of ?c_weight_of ?k_weight_of ?a_drive_of ?l_drive_of ?c_drive_of ?k_drive_of ?a_straight ?l_straight ?c_straight ?k_straight ?a_middle ?l_middle ?c_middle ?k_middle ?a_law_number ?l_law_number ?c_law_number ?k_law_number ?a_law_low ?l_law_low ?c_law_low ?k_law_low ?a_law_sum ?l_law_sum ?c_law_sum ?k_law_sum ?a_law_by ?l_law_by ?c_law_by ?k_law_by ?a_law_there ?l_law_there ?c_law_there ?k_law_there ?a_law_row ?l_law_row ?d_law_row ?c_law_row ?k_law_row ?a_law_moment ?l_law_moment ?c_law_moment ?k_law_moment ?a_law_whole ?l_law_whole ?c_law_whole ?k_law_whole ?a_law_is_share ?l_law_is_share ?c_law_is_share ?k_law_is_share ?a_law_stretch_right ?l_law_stretch_right ?c_law_stretch_right ?k_law_stretch_right ?a_law ?l_law ?c_law ?k_law
    (case eA_BadRow => k_is)
    (case eX_BadRow => k_exc)
    (case eK_BadRow => k_is)
    (case eS_BadRow => k_is)
    (case eT_BadRow => k_is)
    (case eA_BadBead => k_is)
    (case eX_BadBead => k_exc)
    (case eK_BadBead => k_is)
    (case eS_BadBead => k_is)
    (case eT_BadBead => k_is)
    (case eA_BadMoment => k_is)
    (case eX_BadMoment => k_exc)
    (case eK_BadMoment => k_is)
    (case eS_BadMoment => k_is)
    (case eT_BadMoment => k_is)
    (case zb_bool => k_is)
    (case zb_isinstance => k_is)
    (case zb_int => k_is)
    (case zb_abs => k_is)
    (case zb_len => k_is)
    (case zb_tuple => k_is)
    (case zb_all => k_is)
    (case zb_list => k_is)
    (case zb_range => k_is)
    (case zb_any => k_is)
    (case zb_sum => k_is)
    (case zb_enumerate => k_is)
    (case zc_FINEST => k_is)
    (case zc_FARTHEST => k_is)
    (case zc_HEAVIEST => k_is)
    (case zc_MOST => k_is)
    (case a_is_number => k_is)
    (case l_is_number => k_is)
    (case c_is_number => k_is)
    (case k_is_number => k_is)
    (case a_common => k_is)
    (case l_common => k_is)
    (case c_common => k_is)
    (case k_common => k_is)
    (case a_lowest => k_is)
    (case l_lowest => k_is)
    (case c_lowest => k_is)
    (case k_lowest => k_is)
    (case a_is_share => k_is)
    (case l_is_share => k_is)
    (case c_is_share => k_is)
    (case k_is_share => k_is)
    (case a_added => k_is)
    (case l_added => k_is)
    (case c_added => k_is)
    (case k_added => k_is)
    (case a_product => k_is)
    (case l_product => k_is)
    (case c_product => k_is)
    (case k_product => k_is)
    (case a_quotient => k_is)
    (case l_quotient => k_is)
    (case c_quotient => k_is)
    (case k_quotient => k_is)
    (case a_sign => k_is)
    (case l_sign => k_is)
    (case c_sign => k_is)
    (case k_sign => k_is)
    (case a_is_mild => k_is)
    (case l_is_mild => k_is)
    (case c_is_mild => k_is)
    (case k_is_mild => k_is)
    (case a_is_bead => k_is)
    (case l_is_bead => k_is)
    (case c_is_bead => k_is)
    (case k_is_bead => k_is)
    (case a_check_row => k_is)
    (case l_check_row => k_is)
    (case c_check_row => k_is)
    (case k_check_row => k_is)
    (case a_check_bead => k_is)
    (case l_check_bead => k_is)
    (case c_check_bead => k_is)
    (case k_check_bead => k_is)
    (case a_check_stretch => k_is)
    (case l_check_stretch => k_is)
    (case c_check_stretch => k_is)
    (case k_check_stretch => k_is)
    (case a_is_moment => k_is)
    (case l_is_moment => k_is)
    (case c_is_moment => k_is)
    (case k_is_moment => k_is)
    (case a_check_moment => k_is)
    (case l_check_moment => k_is)
    (case c_check_moment => k_is)
    (case k_check_moment => k_is)
    (case a_weight_in => k_is)
    (case l_weight_in => k_is)
    (case c_weight_in => k_is)
    (case k_weight_in => k_is)
    (case a_sum_in => k_is)
    (case l_sum_in => k_is)
    (case c_sum_in => k_is)
    (case k_sum_in => k_is)
    (case a_at_moment => k_is)
    (case l_at_moment => k_is)
    (case c_at_moment => k_is)
    (case k_at_moment => k_is)
    (case a_line_in => k_is)
    (case l_line_in => k_is)
    (case c_line_in => k_is)
    (case k_line_in => k_is)
    (case a_middle_in => k_is)
    (case l_middle_in => k_is)
    (case c_middle_in => k_is)
    (case k_middle_in => k_is)
    (case a_weight_of => k_is)
    (case l_weight_of => k_is)
    (case c_weight_of => k_is)
    (case k_weight_of => k_is)
    (case a_drive_of => k_is)
    (case l_drive_of => k_is)
    (case c_drive_of => k_is)
    (case k_drive_of => k_is)
    (case a_straight => k_is)
    (case l_straight => k_is)
    (case c_straight => k_is)
    (case k_straight => k_is)
    (case a_middle => k_is)
    (case l_middle => k_is)
    (case c_middle => k_is)
    (case k_middle => k_is)
    (case a_law_number => k_is)
    (case l_law_number => k_is)
    (case c_law_number => k_is)
    (case k_law_number => k_is)
    (case a_law_low => k_is)
    (case l_law_low => k_is)
    (case c_law_low => k_is)
    (case k_law_low => k_is)
    (case a_law_sum => k_is)
    (case l_law_sum => k_is)
    (case c_law_sum => k_is)
    (case k_law_sum => k_is)
    (case a_law_by => k_is)
    (case l_law_by => k_is)
    (case c_law_by => k_is)
    (case k_law_by => k_is)
    (case a_law_there => k_is)
    (case l_law_there => k_is)
    (case c_law_there => k_is)
    (case k_law_there => k_is)
    (case a_law_row => k_is)
    (case l_law_row => k_is)
    (case d_law_row => k_is)
    (case c_law_row => k_is)
    (case k_law_row => k_is)
    (case a_law_moment => k_is)
    (case l_law_moment => k_is)
    (case c_law_moment => k_is)
    (case k_law_moment => k_is)
    (case a_law_whole => k_is)
    (case l_law_whole => k_is)
    (case c_law_whole => k_is)
    (case k_law_whole => k_is)
    (case a_law_is_share => k_is)
    (case l_law_is_share => k_is)
    (case c_law_is_share => k_is)
    (case k_law_is_share => k_is)
    (case a_law_stretch_right => k_is)
    (case l_law_stretch_right => k_is)
    (case c_law_stretch_right => k_is)
    (case k_law_stretch_right => k_is)
    (case a_law => k_is)
    (case l_law => k_is)
    (case c_law => k_is)
    (case k_law => k_is)
