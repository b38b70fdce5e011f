import PyProof.Rows.All
import Wide.All
import OpenK.AllK
import Wide.FinOn
import OpenK.KCell
import KE.IntBitsLaws
import KE.KRevIter
import PyProof.StationsW
import PyProof.ExcInit
import PyProof.InstLoad
import PyProof.InstStoreFacts
import PyProof.ExcArgsOwn
import PyProof.ExcAttrAll.Exception
import Open.Boot
import Lean
import PySem.Challenge.RW_pq0189_01
open PySem PySem.W PyProof.Rows
set_option Elab.async false

namespace Mine

inductive V where
  | int (i : Int) | bool (b : Bool) | none | str (x : Str)
  | rat (q : Rat) | pair (a b : V)
  | ilst (l : List Int) | poly (p : List Rat) | polys (l : List (List Rat)) | rats (l : List Rat)
  | box

structure Av where
  Z : List Addr
  bx : Option (Addr × Addr)

noncomputable def Av.inB (X : Av) (a : Addr) : Prop := ∃ b c, X.bx = some (b, c) ∧ (a = b ∨ a = c)

noncomputable def LR {α : Type} (R : α → Value → Prop) : List α → List Value → Prop
  | [], vs => match vs with
    | [] => True
    | _ :: _ => False
  | a :: l, vs => match vs with
    | [] => False
    | v :: vs => R a v ∧ LR R l vs

noncomputable def LstAt (h : Heap) (a : Addr) (vs : List Value) : Prop := ∃ n, h.get? a = some { cls := .type "list", data := .seq vs.toArray n }
noncomputable def TupAt (h : Heap) (a : Addr) (vs : List Value) : Prop := ∃ n, h.get? a = some { cls := .type "tuple", data := .seq vs.toArray n }

noncomputable def RInt (i : Int) (v : Value) : Prop := ∃ t, v = .int i t
noncomputable def RTup (X : Av) (h : Heap) (P : List Value → Prop) (v : Value) : Prop := ∃ a vs, v = .ref a ∧ a ∉ X.Z ∧ TupAt h a vs ∧ P vs
noncomputable def RLst (X : Av) (h : Heap) (P : List Value → Prop) (v : Value) : Prop := ∃ a vs, v = .ref a ∧ a ∉ X.Z ∧ LstAt h a vs ∧ P vs
noncomputable def RRat (X : Av) (h : Heap) (q : Rat) : Value → Prop := RTup X h fun vs => LR RInt [q.num, (q.den : Int)] vs
noncomputable def RPoly (X : Av) (h : Heap) (p : List Rat) : Value → Prop := RLst X h (LR (RRat X h) p)

noncomputable def Rep (X : Av) (h : Heap) : V → Value → Prop
  | .int i, v => RInt i v
  | .bool b, v => v = .bool b
  | .none, v => v = .none
  | .str x, v => ∃ t, v = .str x t
  | .rat q, v => RRat X h q v
  | .pair a b, v => ∃ p x y, v = .ref p ∧ p ∉ X.Z ∧ TupAt h p [x, y] ∧ Rep X h a x ∧ Rep X h b y
  | .ilst l, v => RLst X h (LR RInt l) v
  | .poly p, v => RPoly X h p v
  | .polys l, v => RLst X h (LR (RPoly X h) l) v
  | .rats l, v => RTup X h (LR (RRat X h) l) v
  | .box, v => ∃ b c, X.bx = some (b, c) ∧ v = .ref b

theorem LR.mono {α : Type} {R R' : α → Value → Prop} (hR : ∀ a v, R a v → R' a v) {l : List α} {vs : List Value} (h : LR R l vs) : LR R' l vs := by
  induction l generalizing vs with
  | nil => cases vs with | nil => trivial | cons _ _ => exact h.elim
  | cons a l ih => cases vs with | nil => exact h.elim | cons v vs => exact ⟨hR _ _ h.1, ih h.2⟩
theorem LR.length {α : Type} {R : α → Value → Prop} {l : List α} {vs : List Value} (h : LR R l vs) : vs.length = l.length := by
  induction l generalizing vs with
  | nil => cases vs with | nil => rfl | cons _ _ => exact h.elim
  | cons a l ih => cases vs with | nil => exact h.elim | cons v vs => exact congrArg (· + 1) (ih h.2)
theorem LR.get {α : Type} {R : α → Value → Prop} {l : List α} {vs : List Value} {i : Nat} {a : α} (h : LR R l vs) (e : l[i]? = some a) : ∃ v, vs[i]? = some v ∧ R a v := by
  induction l generalizing vs i with
  | nil => simp at e
  | cons x l ih => cases vs with
    | nil => exact h.elim
    | cons v vs => cases i with
      | zero => simp at e; subst e; exact ⟨v, rfl, h.1⟩
      | succ i => simpa using ih h.2 (by simpa using e)
theorem LR.append {α : Type} {R : α → Value → Prop} {l l' : List α} {vs vs' : List Value} (h : LR R l vs) (h' : LR R l' vs') : LR R (l ++ l') (vs ++ vs') := by
  induction l generalizing vs with
  | nil => cases vs with | nil => exact h' | cons _ _ => exact h.elim
  | cons a l ih => cases vs with | nil => exact h.elim | cons v vs => exact ⟨h.1, ih h.2⟩
theorem LR.take {α : Type} {R : α → Value → Prop} {l : List α} {vs : List Value} (n : Nat) (h : LR R l vs) : LR R (l.take n) (vs.take n) := by
  induction l generalizing vs n with
  | nil => cases vs with | nil => cases n <;> trivial | cons _ _ => exact h.elim
  | cons a l ih => cases vs with
    | nil => exact h.elim
    | cons v vs => cases n with
      | zero => trivial
      | succ n => exact ⟨h.1, ih n h.2⟩
theorem LR.drop {α : Type} {R : α → Value → Prop} {l : List α} {vs : List Value} (n : Nat) (h : LR R l vs) : LR R (l.drop n) (vs.drop n) := by
  induction l generalizing vs n with
  | nil => cases vs with | nil => cases n <;> trivial | cons _ _ => exact h.elim
  | cons a l ih => cases vs with
    | nil => exact h.elim
    | cons v vs => cases n with
      | zero => exact h
      | succ n => exact ih n h.2
theorem LR.set {α : Type} {R : α → Value → Prop} {l : List α} {vs : List Value} (n : Nat) {a : α} {v : Value} (h : LR R l vs) (r : R a v) : LR R (l.set n a) (vs.set n v) := by
  induction l generalizing vs n with
  | nil => cases vs with | nil => trivial | cons _ _ => exact h.elim
  | cons a l ih => cases vs with
    | nil => exact h.elim
    | cons v vs => cases n with
      | zero => exact ⟨r, h.2⟩
      | succ n => exact ⟨h.1, ih n h.2⟩
theorem LR.none {α : Type} {R : α → Value → Prop} {vs : List Value} (h : LR R [] vs) : vs = [] := by
  cases vs with | nil => rfl | cons _ _ => exact h.elim
theorem LR.cons {α : Type} {R : α → Value → Prop} {a : α} {l : List α} {vs : List Value} (h : LR R (a :: l) vs) : ∃ v ws, vs = v :: ws ∧ R a v ∧ LR R l ws := by
  cases vs with | nil => exact h.elim | cons v ws => exact ⟨v, ws, rfl, h.1, h.2⟩
theorem LR.one {α : Type} {R : α → Value → Prop} {a : α} {vs : List Value} (h : LR R [a] vs) : ∃ v, vs = [v] ∧ R a v := by
  obtain ⟨v, ws, rfl, r, q⟩ := h.cons
  exact ⟨v, by rw [q.none], r⟩
theorem LR.two {α : Type} {R : α → Value → Prop} {a b : α} {vs : List Value} (h : LR R [a, b] vs) : ∃ v w, vs = [v, w] ∧ R a v ∧ R b w := by
  obtain ⟨v, ws, rfl, r, q⟩ := h.cons
  obtain ⟨w, rfl, r'⟩ := q.one
  exact ⟨v, w, rfl, r, r'⟩

/-- the ints that are left in the box -/
noncomputable def BoxL (is : List Int) (vs : List Value) : Prop := LR RInt is vs ∧ is.length ≤ 100

structure Stp (X : Av) (s s' : Shared) : Prop where
  keep : ∀ a o, ¬ X.inB a → s.heap.get? a = some o → s'.heap.get? a = some o
  box : ∀ b c, X.bx = some (b, c) → ∀ n t is vs, LstAt s.heap b [.ref c, .int n t] → LstAt s.heap c vs → BoxL is vs → ∃ n' t' is' vs', LstAt s'.heap b [.ref c, .int n' t'] ∧ LstAt s'.heap c vs' ∧ BoxL is' vs'
  rest : ∃ h' tk, s' = { s with heap := h', toks := tk }

theorem Stp.refl (X : Av) (s : Shared) : Stp X s s := ⟨fun _ _ _ e => e, fun _ _ _ n t is vs a b c => ⟨n, t, is, vs, a, b, c⟩, ⟨_, _, rfl⟩⟩
theorem Stp.trans {X : Av} {s₁ s₂ s₃ : Shared} (x : Stp X s₁ s₂) (y : Stp X s₂ s₃) : Stp X s₁ s₃ := by
  refine ⟨fun a o n e => y.keep a o n (x.keep a o n e), fun b c hb n t is vs p q r => ?_, ?_⟩
  · obtain ⟨n', t', is', vs', p', q', r'⟩ := x.box b c hb n t is vs p q r
    exact y.box b c hb n' t' is' vs' p' q' r'
  · obtain ⟨h', tk, rfl⟩ := x.rest
    obtain ⟨h'', tk', rfl⟩ := y.rest
    exact ⟨_, _, rfl⟩
/-- everything that was there is kept -/
theorem Stp.ext {X : Av} {s : Shared} {h' : Heap} {tk : Nat} (k : ∀ a o, s.heap.get? a = some o → h'.get? a = some o) : Stp X s { s with heap := h', toks := tk } :=
  ⟨fun a o _ e => k a o e, fun _ _ _ n t is vs ⟨k1, p⟩ ⟨k2, q⟩ r => ⟨n, t, is, vs, ⟨k1, k _ _ p⟩, ⟨k2, k _ _ q⟩, r⟩, ⟨_, _, rfl⟩⟩
theorem Stp.toks {X : Av} {s : Shared} {tk : Nat} : Stp X s { s with toks := tk } := Stp.ext (h' := s.heap) fun _ _ e => e
theorem Stp.push {X : Av} {s : Shared} {o : Obj} {tk : Nat} : Stp X s { s with heap := s.heap.push o, toks := tk } := Stp.ext fun _ _ e => Heap.get?_push_of_some _ e

structure Av.Ok (X : Av) : Prop where
  mem : ∀ a, X.inB a → a ∈ X.Z

theorem LstAt.keep {X : Av} {s s' : Shared} {a vs} (st : Stp X s s') (n : ¬ X.inB a) (x : LstAt s.heap a vs) : LstAt s'.heap a vs := let ⟨k, e⟩ := x; ⟨k, st.keep _ _ n e⟩
theorem TupAt.keep {X : Av} {s s' : Shared} {a vs} (st : Stp X s s') (n : ¬ X.inB a) (x : TupAt s.heap a vs) : TupAt s'.heap a vs := let ⟨k, e⟩ := x; ⟨k, st.keep _ _ n e⟩

/-- from one place to another -/
structure Mov (X Y : Av) (h h' : Heap) : Prop where
  t : ∀ a vs, a ∉ X.Z → TupAt h a vs → a ∉ Y.Z ∧ TupAt h' a vs
  l : ∀ a vs, a ∉ X.Z → LstAt h a vs → a ∉ Y.Z ∧ LstAt h' a vs
  b : X.bx = Y.bx
section
variable {X Y : Av} {h h' : Heap} (T : Mov X Y h h')
include T
theorem RTup.tr {P P' : List Value → Prop} (hP : ∀ vs, P vs → P' vs) {v} (r : RTup X h P v) : RTup Y h' P' v :=
  let ⟨a, vs, e, z, t, p⟩ := r; ⟨a, vs, e, (T.t _ _ z t).1, (T.t _ _ z t).2, hP _ p⟩
theorem RLst.tr {P P' : List Value → Prop} (hP : ∀ vs, P vs → P' vs) {v} (r : RLst X h P v) : RLst Y h' P' v :=
  let ⟨a, vs, e, z, t, p⟩ := r; ⟨a, vs, e, (T.l _ _ z t).1, (T.l _ _ z t).2, hP _ p⟩
theorem RRat.tr {q v} (r : RRat X h q v) : RRat Y h' q v := RTup.tr T (fun _ p => p) r
theorem RPoly.tr {q v} (r : RPoly X h q v) : RPoly Y h' q v := RLst.tr T (fun _ p => p.mono fun _ _ x => RRat.tr T x) r
theorem Rep.tr {d : V} {v : Value} (r : Rep X h d v) : Rep Y h' d v := by
  induction d generalizing v with
  | rat _ => exact RRat.tr T r
  | pair a b iha ihb =>
    obtain ⟨p, x, y, e, z, t, a, b⟩ := r
    exact ⟨p, x, y, e, (T.t _ _ z t).1, (T.t _ _ z t).2, iha a, ihb b⟩
  | ilst _ => exact RLst.tr T (fun _ p => p) r
  | poly _ => exact RPoly.tr T r
  | polys _ => exact RLst.tr T (fun _ p => p.mono fun _ _ x => RPoly.tr T x) r
  | rats _ => exact RTup.tr T (fun _ p => p.mono fun _ _ x => RRat.tr T x) r
  | box => obtain ⟨b, c, e, q⟩ := r; exact ⟨b, c, T.b.symm.trans e, q⟩
  | _ => exact r
end
theorem Mov.keep {X : Av} (ok : X.Ok) {s s' : Shared} (st : Stp X s s') : Mov X X s.heap s'.heap :=
  ⟨fun a _ z t => ⟨z, t.keep st fun b => z (ok.mem a b)⟩, fun a _ z t => ⟨z, t.keep st fun b => z (ok.mem a b)⟩, rfl⟩
theorem RRat.keep {X : Av} (ok : X.Ok) {s s' : Shared} (st : Stp X s s') {q v} (h : RRat X s.heap q v) : RRat X s'.heap q v := h.tr (.keep ok st)
theorem RPoly.keep {X : Av} (ok : X.Ok) {s s' : Shared} (st : Stp X s s') {q v} (h : RPoly X s.heap q v) : RPoly X s'.heap q v := h.tr (.keep ok st)
theorem Rep.keep {X : Av} (ok : X.Ok) {s s' : Shared} (st : Stp X s s') {d : V} {v : Value} (h : Rep X s.heap d v) : Rep X s'.heap d v := h.tr (.keep ok st)

/-- fewer addresses to be avoided -/
structure Av.Le (X Y : Av) : Prop where
  sub : ∀ a, a ∈ X.Z → a ∈ Y.Z
  bx : X.bx = Y.bx
theorem Av.Le.refl (X : Av) : X.Le X := ⟨fun _ h => h, rfl⟩
theorem Av.Le.trans {X Y W : Av} (a : X.Le Y) (b : Y.Le W) : X.Le W := ⟨fun z h => b.sub z (a.sub z h), a.bx.trans b.bx⟩
theorem Mov.le {X Y : Av} (l : X.Le Y) {h : Heap} : Mov Y X h h := ⟨fun a _ z t => ⟨fun b => z (l.sub a b), t⟩, fun a _ z t => ⟨fun b => z (l.sub a b), t⟩, l.bx.symm⟩
theorem RRat.le {X Y : Av} (l : X.Le Y) {h : Heap} {q v} (x : RRat Y h q v) : RRat X h q v := x.tr (.le l)
theorem RPoly.le {X Y : Av} (l : X.Le Y) {h : Heap} {q v} (x : RPoly Y h q v) : RPoly X h q v := x.tr (.le l)
theorem Rep.le {X Y : Av} (l : X.Le Y) {h : Heap} {d : V} {v : Value} (x : Rep Y h d v) : Rep X h d v := x.tr (.le l)

/-- one more address to be avoided: a fresh one -/
noncomputable def Av.more (X : Av) (a : Addr) : Av := { X with Z := a :: X.Z }
theorem Av.le_more (X : Av) (a : Addr) : X.Le (X.more a) := ⟨fun _ h => List.mem_cons_of_mem _ h, rfl⟩

/-- more addresses to be avoided: such as no list and no tuple lies at -/
structure Up (X Y : Av) (h : Heap) : Prop where
  no : ∀ b ∈ Y.Z, b ∈ X.Z ∨ ∀ vs, ¬ LstAt h b vs ∧ ¬ TupAt h b vs
  bx : X.bx = Y.bx
theorem Rep.up {X Y : Av} {h : Heap} (u : Up X Y h) {d : V} {v : Value} (r : Rep X h d v) : Rep Y h d v :=
  r.tr ⟨fun a vs z t => ⟨fun m => (u.no a m).elim z fun q => (q vs).2 t, t⟩, fun a vs z t => ⟨fun m => (u.no a m).elim z fun q => (q vs).1 t, t⟩, u.bx⟩
theorem Rep.more {X : Av} {h : Heap} {b : Addr} (hb : ∀ vs, ¬ TupAt h b vs) (hc : ∀ vs, ¬ LstAt h b vs) {d : V} {v : Value} (r : Rep X h d v) : Rep (X.more b) h d v :=
  Rep.up (Y := X.more b) ⟨fun a m => (List.mem_cons.mp m).elim (fun e => .inr fun vs => e ▸ ⟨hc vs, hb vs⟩) .inl, rfl⟩ r
end Mine

namespace Mine

noncomputable abbrev Store := List (Str × V)
structure Sto where
  ρ : Store
  own : Option (Str × List Rat)

inductive Sp : Type 1 where
  | loop (σ : Type) (I : Nat → σ → Prop) (J : Nat → σ → Sto) (x0 : σ) (inner : Nat → σ → List (Nat × Sp))
  | whl (σ : Type) (I : σ → Prop) (μ : σ → Nat) (J : σ → Sto) (x0 : σ) (inner : σ → List (Nat × Sp))
  | whe (σ : Type) (I : σ → Prop) (μ : σ → Nat) (J : σ → Sto) (inner : σ → List (Nat × Sp))
  | loe (σ : Type) (I : Nat → σ → Prop) (J : Nat → σ → Sto) (inner : Nat → σ → List (Nat × Sp))
  | comp (r : V)
  | own

structure Cx where
  ks : List (Str × NameKind)
  sp : List (Nat × Sp)

structure EVs where
  ev : Cx → Sto → Expr → (V → Prop) → Prop
  tst : Cx → Sto → Expr → (Bool → Prop) → Prop
  ex : Cx → Sto → Stmt → (V → Prop) → (Sto → Prop) → Prop

noncomputable abbrev Spec := List V → (V → Prop) → Prop
noncomputable abbrev Tab := Str → Option Spec

/-- views: what an expression, a list, a value is -/
theorem no {α : Type} {a : α} {P : Prop} (h : (none : Option α) = some a) : P := nomatch h
theorem yes {α : Type} {a : α} {P : Prop} (h : some a = none) : P := nomatch h
theorem noT {P : Prop} (h : false = true) : P := nomatch h
noncomputable def one {α : Type} : List α → Option α
  | [] => none
  | a :: r => match r with | [] => some a | _ :: _ => none
theorem one_eq {α : Type} {l : List α} {a : α} (h : one l = some a) : l = [a] := by
  cases l with
  | nil => cases h
  | cons x r => cases r with
    | nil => cases h; rfl
    | cons _ _ => exact no h
noncomputable def two {α : Type} : List α → Option (α × α)
  | [] => none
  | a :: r => match one r with | some b => some (a, b) | none => none
theorem two_eq {α : Type} {l : List α} {a b : α} (h : two l = some (a, b)) : l = [a, b] := by
  cases l with
  | nil => cases h
  | cons x r =>
    have h : (match one r with | some b => some (x, b) | none => none) = some (a, b) := h
    cases q : one r with
    | none => rw [q] at h; exact no h
    | some y => rw [q] at h; cases h; rw [one_eq q]
noncomputable def vName : Expr → Option (Str × Pos)
  | .Name x p => some (x, p)
  | _ => none
theorem vName_eq {e : Expr} {x p} (h : vName e = some (x, p)) : e = .Name x p := by cases e <;> first | exact no h | (cases h; rfl)
noncomputable def vTup : Expr → Option (List Expr × Nat × Pos)
  | .Tuple es k p => some (es, k, p)
  | _ => none
theorem vTup_eq {e : Expr} {es k p} (h : vTup e = some (es, k, p)) : e = .Tuple es k p := by cases e <;> first | exact no h | (cases h; rfl)
theorem vTup_no {e : Expr} (h : vTup e = none) (es k p) : e ≠ .Tuple es k p := by rintro rfl; cases h
noncomputable def vSlice : Expr → Option (Option Expr × Option Expr × Option Expr × Pos)
  | .Slice l h s p => some (l, h, s, p)
  | _ => none
theorem vSlice_eq {e : Expr} {l h s p} (q : vSlice e = some (l, h, s, p)) : e = .Slice l h s p := by cases e <;> first | exact no q | (cases q; rfl)
noncomputable def vCall : Expr → Option (Expr × List Expr × List Keyword × Pos)
  | .Call f a k p => some (f, a, k, p)
  | _ => none
theorem vCall_eq {e : Expr} {f a k p} (q : vCall e = some (f, a, k, p)) : e = .Call f a k p := by cases e <;> first | exact no q | (cases q; rfl)
noncomputable def vAttr : Expr → Option (Expr × Str × Pos)
  | .Attribute o m p => some (o, m, p)
  | _ => none
theorem vAttr_eq {e : Expr} {o m p} (q : vAttr e = some (o, m, p)) : e = .Attribute o m p := by cases e <;> first | exact no q | (cases q; rfl)
noncomputable def vComp : Expr → Option (Expr × List Comprehension × Scope × Pos)
  | .ListComp e g s p => some (e, g, s, p)
  | _ => none
theorem vComp_eq {e : Expr} {x g s p} (q : vComp e = some (x, g, s, p)) : e = .ListComp x g s p := by cases e <;> first | exact no q | (cases q; rfl)
noncomputable def vGen (l : List Comprehension) : Option (Expr × Expr × List Expr) := match one l with
  | some g => match decide (g.is_async = 0) with
    | true => some (g.target, g.iter, g.ifs)
    | false => none
  | none => none
theorem vGen_eq {l : List Comprehension} {t i f} (h : vGen l = some (t, i, f)) : l = [⟨t, i, f, 0⟩] := by
  unfold vGen at h
  cases q : one l with
  | none => rw [q] at h; exact no h
  | some g =>
    rw [q] at h
    have h : (match decide (g.is_async = 0) with | true => some (g.target, g.iter, g.ifs) | false => none) = some (t, i, f) := h
    cases e : decide (g.is_async = 0) with
    | false => rw [e] at h; cases h
    | true =>
      rw [e] at h; cases h
      obtain ⟨a, b, c, d⟩ := g
      obtain rfl : d = 0 := of_decide_eq_true e
      exact one_eq q
noncomputable def vCallN (e : Expr) : Option (Str × Pos × List Expr × Pos) := match vCall e with
  | some (f, a, k, p) => match k with
    | [] => match vName f with
      | some (x, q) => some (x, q, a, p)
      | none => none
    | _ :: _ => none
  | none => none
theorem vCallN_eq {e : Expr} {x q a p} (h : vCallN e = some (x, q, a, p)) : e = .Call (.Name x q) a [] p := by
  unfold vCallN at h
  cases e1 : vCall e with
  | none => rw [e1] at h; exact no h
  | some z =>
    obtain ⟨f, a', k, p'⟩ := z
    rw [e1] at h
    cases k with
    | cons _ _ => exact no h
    | nil =>
      have h : (match vName f with | some (x, q) => some (x, q, a', p') | none => none) = some (x, q, a, p) := h
      cases e2 : vName f with
      | none => rw [e2] at h; exact no h
      | some y =>
        obtain ⟨y, yp⟩ := y
        rw [e2] at h; cases h
        rw [vCall_eq e1, vName_eq e2]
/-- a method called on a name -/
noncomputable def vMeth (e : Expr) : Option (Str × Pos × Str × Pos × List Expr × Pos) := match vCall e with
  | some (f, a, k, p) => match k with
    | [] => match vAttr f with
      | some (o, m, ap) => match vName o with
        | some (x, q) => some (x, q, m, ap, a, p)
        | none => none
      | none => none
    | _ :: _ => none
  | none => none
theorem vMeth_eq {e : Expr} {x q m ap a p} (h : vMeth e = some (x, q, m, ap, a, p)) : e = .Call (.Attribute (.Name x q) m ap) a [] p := by
  unfold vMeth at h
  cases e1 : vCall e with
  | none => rw [e1] at h; exact no h
  | some z =>
    obtain ⟨f, a', k, p'⟩ := z
    rw [e1] at h
    cases k with
    | cons _ _ => exact no h
    | nil =>
      have h : (match vAttr f with | some (o, m, ap) => (match vName o with | some (x, q) => some (x, q, m, ap, a', p') | none => none) | none => none) = some (x, q, m, ap, a, p) := h
      cases e2 : vAttr f with
      | none => rw [e2] at h; exact no h
      | some y =>
        obtain ⟨o, m', ap'⟩ := y
        rw [e2] at h
        have h : (match vName o with | some (x, q) => some (x, q, m', ap', a', p') | none => none) = some (x, q, m, ap, a, p) := h
        cases e3 : vName o with
        | none => rw [e3] at h; exact no h
        | some y =>
          obtain ⟨y, yp⟩ := y
          rw [e3] at h; cases h
          rw [vCall_eq e1, vAttr_eq e2, vName_eq e3]

noncomputable def vInt : V → Option Int
  | .int i => some i
  | _ => none
theorem vInt_eq {v : V} {i} (h : vInt v = some i) : v = .int i := by cases v <;> first | exact no h | (cases h; rfl)
noncomputable def vBool : V → Option Bool
  | .bool b => some b
  | _ => none
theorem vBool_eq {v : V} {i} (h : vBool v = some i) : v = .bool i := by cases v <;> first | exact no h | (cases h; rfl)
noncomputable def vPoly : V → Option (List Rat)
  | .poly p => some p
  | _ => none
theorem vPoly_eq {v : V} {i} (h : vPoly v = some i) : v = .poly i := by cases v <;> first | exact no h | (cases h; rfl)
noncomputable def vPair : V → Option (V × V)
  | .pair a b => some (a, b)
  | _ => none
theorem vPair_eq {v : V} {a b} (h : vPair v = some (a, b)) : v = .pair a b := by cases v <;> first | exact no h | (cases h; rfl)
/-- two ints -/
noncomputable def vInts (a b : V) : Option (Int × Int) := match vInt a with
  | some i => match vInt b with
    | some j => some (i, j)
    | none => none
  | none => none
theorem vInts_eq {a b : V} {i j} (h : vInts a b = some (i, j)) : a = .int i ∧ b = .int j := by
  unfold vInts at h
  cases e1 : vInt a with
  | none => rw [e1] at h; exact no h
  | some x =>
    rw [e1] at h
    have h : (match vInt b with | some j => some (x, j) | none => none) = some (i, j) := h
    cases e2 : vInt b with
    | none => rw [e2] at h; exact no h
    | some y => rw [e2] at h; cases h; exact ⟨vInt_eq e1, vInt_eq e2⟩

noncomputable def cvInts (a b : V) (q : Rat) : Prop := match vInts a b with
  | some (i, j) => q.num = i ∧ (q.den : Int) = j
  | none => False
noncomputable def conv : V → V → Prop
  | .int a => fun v => match v with | .int b => a = b | _ => False
  | .bool a => fun v => match v with | .bool b => a = b | _ => False
  | .none => fun v => match v with | .none => True | _ => False
  | .str a => fun v => match v with | .str b => a = b | _ => False
  | .rat p => fun v => match v with | .rat q => p = q | _ => False
  | .pair a b => fun v => match v with | .rat q => cvInts a b q | .pair c d => conv a c ∧ conv b d | _ => False
  | .ilst a => fun v => match v with | .ilst b => a = b | _ => False
  | .poly a => fun v => match v with | .poly b => a = b | .ilst b => a = [] ∧ b = [] | .polys b => a = [] ∧ b = [] | _ => False
  | .polys a => fun v => match v with | .polys b => a = b | _ => False
  | .rats a => fun v => match v with | .rats b => a = b | _ => False
  | .box => fun v => match v with | .box => True | _ => False

noncomputable def asRat : V → (Rat → Prop) → Prop
  | .rat q, k => k q
  | .pair a b, k => match vInts a b with
    | some (i, j) => ∃ q : Rat, (q.num = i ∧ (q.den : Int) = j) ∧ k q
    | none => False
  | _, _ => False
noncomputable def asRats : List V → (List Rat → Prop) → Prop
  | [], k => k []
  | v :: r, k => asRat v fun q => asRats r fun l => k (q :: l)
noncomputable def asPolys : List V → (List (List Rat) → Prop) → Prop
  | [], k => k []
  | v :: r, k => match vPoly v with
    | some p => asPolys r fun l => k (p :: l)
    | none => False

noncomputable def mkLst : List V → (V → Prop) → Prop
  | [], k => k (.poly [])
  | v :: r, k => match vPoly v with
    | some p => asPolys r fun l => k (.polys (p :: l))
    | none => asRats (v :: r) fun l => k (.poly l)
noncomputable def mkTup (l : List V) (k : V → Prop) : Prop := match two l with
  | some (a, b) => k (.pair a b)
  | none => match Nat.beq l.length 4 with
    | true => asRats l fun q => k (.rats q)
    | false => False

noncomputable def szL : Nat := 1000000
noncomputable def intW (a b : Int) (k : V → Prop) : Operator → Prop
  | .Add => k (.int (a + b))
  | .Sub => k (.int (a - b))
  | .Mult => IntMulOk a b ∧ k (.int (a * b))
  | .FloorDiv => b ≠ 0 ∧ k (.int (a.fdiv b))
  | .Mod => b ≠ 0 ∧ k (.int (a.fmod b))
  | _ => False
noncomputable def polyW (p : List Rat) (b : V) (k : V → Prop) : Operator → Prop
  | .Add => match vPoly b with
    | some q => p.length + q.length ≤ szL ∧ k (.poly (p ++ q))
    | none => False
  | .Mult => match vInt b with
    | some n => (p.length * n.toNat ≤ szL ∧ -(2 ^ 60) < n ∧ n < 2 ^ 60) ∧ k (.poly (List.replicate n.toNat p).flatten)
    | none => False
  | _ => False
noncomputable def binW (op : Operator) (a b : V) (k : V → Prop) : Prop := match vPoly a with
  | some p => polyW p b k op
  | none => match vInts a b with
    | some (i, j) => intW i j k op
    | none => False

noncomputable def eqF (a : V) : V → Option Bool
  | .int b => match vInt a with | some a => some (decide (a = b)) | none => none
  | .bool b => match vBool a with | some a => some (decide (a = b)) | none => none
  | .rat q => match a with | .rat p => some (decide (p = q)) | _ => none
  | .pair x y => match a with
    | .rat p => match vInts x y with
      | some (i, j) => some (decide (p.num = i ∧ (p.den : Int) = j))
      | none => none
    | _ => none
  | .ilst b => match a with | .ilst a => some (decide (a = b)) | _ => none
  | .poly q => match a with
    | .poly p => some (decide (p = q))
    | .ilst a => match q with | [] => some (decide (a = [])) | _ :: _ => none
    | .polys a => match q with | [] => some (decide (a = [])) | _ :: _ => none
    | _ => none
  | _ => none
noncomputable def eqP (a b c d : V) : Option Bool := match eqF a c with
  | some x => match eqF b d with
    | some y => some (x && y)
    | none => none
  | none => none
noncomputable def eqV (a b : V) : Option Bool := match vPair a with
  | some (x, y) => match vPair b with
    | some (u, v) => eqP x y u v
    | none => none
  | none => eqF a b
noncomputable def cmpI (a b : Int) (k : Bool → Prop) : CmpOp → Prop
  | .Lt => k (decide (a < b))
  | .LtE => k (decide (a ≤ b))
  | .Gt => k (decide (b < a))
  | .GtE => k (decide (b ≤ a))
  | _ => False
noncomputable def cmpE (x : Option Bool) (k : Bool → Prop) : Prop := match x with | some x => k x | none => False
noncomputable def cmpL (op : CmpOp) (x : Option (Int × Int)) (k : Bool → Prop) : Prop := match x with | some (i, j) => cmpI i j k op | none => False
noncomputable def cmpW (op : CmpOp) (a b : V) (k : Bool → Prop) : Prop := match op with
  | .Eq => cmpE (eqV a b) k
  | .NotEq => cmpE (eqV a b) fun x => k (!x)
  | op => cmpL op (vInts a b) k

/-- an index into a list of n items -/
noncomputable def ixOk (n : Nat) (i : Int) : Prop := -(n : Int) ≤ i ∧ i < n ∧ n ≤ szL
noncomputable def ixOf (n : Nat) (i : Int) : Nat := if i < 0 then (i + n).toNat else i.toNat
noncomputable def ixW (i : Int) (k : V → Prop) : V → Prop
  | .rat q => (i = 0 → k (.int q.num)) ∧ (i = 1 → k (.int q.den)) ∧ (i = 0 ∨ i = 1)
  | .pair a b => (i = 0 → k a) ∧ (i = 1 → k b) ∧ (i = 0 ∨ i = 1)
  | .poly p => ixOk p.length i ∧ k (.rat (p.getD (ixOf p.length i) 0))
  | .ilst p => ixOk p.length i ∧ k (.int (p.getD (ixOf p.length i) 0))
  | .polys p => ixOk p.length i ∧ k (.poly (p.getD (ixOf p.length i) []))
  | _ => False
noncomputable def idxW (v iv : V) (k : V → Prop) : Prop := match vInt iv with
  | some i => ixW i k v
  | none => False

noncomputable def loOf (n : Nat) (i : Int) : Nat := if i < 0 then (i + n).toNat else i.toNat
noncomputable def cutW (l h : Option Int) (v : V) (k : V → Prop) : Prop := match vPoly v with
  | some p => match l with
    | none => match h with
      | some i => p.length ≤ szL ∧ k (.poly (p.take (loOf p.length i)))
      | none => False
    | some i => match h with
      | none => (0 ≤ i ∧ p.length ≤ szL) ∧ k (.poly (p.drop i.toNat))
      | some _ => False
  | none => False

noncomputable def evs (f : Expr → (V → Prop) → Prop) : List Expr → (List V → Prop) → Prop
  | [], k => k []
  | e :: r, k => f e fun v => evs f r fun vs => k (v :: vs)
noncomputable def boolC (isOr : Bool) (rest : (V → Prop) → Prop) (k : V → Prop) (v : V) : Prop := match vBool v with
  | some b => (b = isOr → k (.bool b)) ∧ (b = !isOr → rest k)
  | none => False
noncomputable def boolE (f : Expr → (V → Prop) → Prop) (isOr : Bool) : List Expr → (V → Prop) → Prop
  | [], _ => False
  | e :: r, k => match r with
    | [] => f e k
    | _ :: _ => f e (boolC isOr (boolE f isOr r) k)
noncomputable def boolT (f : Expr → (Bool → Prop) → Prop) (isOr : Bool) : List Expr → (Bool → Prop) → Prop
  | [], k => k (!isOr)
  | e :: r, k => f e fun b => (b = isOr → k isOr) ∧ (b = !isOr → boolT f isOr r k)

noncomputable def noStar : Expr → Bool
  | .Starred .. => false
  | _ => true
noncomputable def noSet : Expr → Bool
  | .Set .. => false
  | _ => true
noncomputable def cmpOk : CmpOp → Bool
  | .Eq | .NotEq | .Lt | .LtE | .Gt | .GtE => true
  | _ => false
noncomputable def isGlob (c : Cx) (x : Str) : Bool := match c.ks.lookup x with | some .globalImplicit => true | _ => false
noncomputable def isLoc (c : Cx) (x : Str) : Bool := match c.ks.lookup x with | some .local => true | _ => false
noncomputable def isCell (c : Cx) (x : Str) : Bool := match c.ks.lookup x with | some .cell => true | _ => false

noncomputable def nameW (c : Cx) (σ : Sto) (x : Str) (k : V → Prop) : Prop :=
  match σ.ρ.lookup x with
  | some v => k v
  | none => match isGlob c x with
    | true => match x == ("R0" : Str) with
      | true => k (.rat 0)
      | false => match x == ("R1" : Str) with
        | true => k (.rat 1)
        | false => False
    | false => False

noncomputable def plainIx : Expr → Bool
  | .Slice .. => false
  | _ => true
noncomputable def ownIs (σ : Sto) (x : Str) : Option (List Rat) := match σ.own with
  | some (y, p) => match y == x with | true => some p | false => none
  | none => none
noncomputable def isOp : BoolOp → Bool
  | .Or => true
  | .And => false

noncomputable def seqW : V → (Nat → (Nat → V) → Prop) → Prop
  | .poly p, k => p.length ≤ szL ∧ k p.length fun i => .rat (p.getD i 0)
  | .ilst p, k => p.length ≤ szL ∧ k p.length fun i => .int (p.getD i 0)
  | .polys p, k => p.length ≤ szL ∧ k p.length fun i => .poly (p.getD i [])
  | .rats p, k => p.length ≤ szL ∧ k p.length fun i => .rat (p.getD i 0)
  | _, _ => False
noncomputable def small (n : Int) : Prop := -(2 ^ 60) < n ∧ n < 2 ^ 60
inductive Rng where | range | rev | enum | no
noncomputable def rngOf (c : Cx) (f : Str) (args : List Expr) : Rng := match isGlob c f && args.all noStar with
  | true => match f == ("range" : Str) with
    | true => .range
    | false => match f == ("reversed" : Str) with
      | true => .rev
      | false => match f == ("enumerate" : Str) with
        | true => .enum
        | false => .no
  | false => .no
noncomputable def rngW (l : List V) (k : Nat → (Nat → V) → Prop) : Prop := match one l with
  | some v => match vInt v with
    | some n => (small n ∧ n ≤ szL) ∧ k n.toNat fun i => .int i
    | none => False
  | none => match two l with
    | some (v, w) => match vInts v w with
      | some (a, b) => (small a ∧ small b ∧ b - a ≤ szL) ∧ k (b - a).toNat fun i => .int (a + i)
      | none => False
    | none => False
noncomputable def polyL (l : List V) : Option (List Rat) := match one l with
  | some v => vPoly v
  | none => none
noncomputable def revW (l : List V) (k : Nat → (Nat → V) → Prop) : Prop := match polyL l with
  | some p => p.length ≤ szL ∧ k p.length fun i => .rat (p.getD (p.length - 1 - i) 0)
  | none => False
noncomputable def enuW (l : List V) (k : Nat → (Nat → V) → Prop) : Prop := match polyL l with
  | some p => p.length ≤ szL ∧ k p.length fun i => .pair (.int i) (.rat (p.getD i 0))
  | none => False
noncomputable def itCallW (f : Rng) (whole : ((V → Prop) → Prop)) (vs : ((List V → Prop) → Prop)) (k : Nat → (Nat → V) → Prop) : Prop := match f with
  | .range => vs fun l => rngW l k
  | .rev => vs fun l => revW l k
  | .enum => vs fun l => enuW l k
  | .no => whole fun v => seqW v k
noncomputable def itW (r : EVs) (c : Cx) (σ : Sto) (e : Expr) (k : Nat → (Nat → V) → Prop) : Prop := match vCallN e with
  | some (f, _, args, _) => itCallW (rngOf c f args) (r.ev c σ e) (evs (r.ev c σ) args) k
  | none => r.ev c σ e fun v => seqW v k

noncomputable def drop (x : Str) (ρ : Store) : Store := ρ.filter fun y => !(y.1 == x)
noncomputable def bind1 (c : Cx) (σ : Sto) (x : Str) (v : V) (k : Sto → Prop) : Prop := match isLoc c x && (ownIs σ x).isNone with
  | true => k { σ with ρ := (x, v) :: σ.ρ }
  | false => False
noncomputable def bind2 (c : Cx) (σ : Sto) (x y : Str) (a b : V) (k : Sto → Prop) : Prop := match isLoc c x && isLoc c y && !(x == y) && (ownIs σ x).isNone && (ownIs σ y).isNone with
  | true => k { σ with ρ := (y, b) :: (x, a) :: σ.ρ }
  | false => False
/-- two names -/
noncomputable def vNames (es : List Expr) : Option (Str × Pos × Str × Pos) := match two es with
  | some (tx, ty) => match vName tx with
    | some (x, px) => match vName ty with
      | some (y, py) => some (x, px, y, py)
      | none => none
    | none => none
  | none => none
theorem vNames_eq {es : List Expr} {x px y py} (h : vNames es = some (x, px, y, py)) : es = [.Name x px, .Name y py] := by
  unfold vNames at h
  cases e1 : two es with
  | none => rw [e1] at h; exact no h
  | some z =>
    obtain ⟨tx, ty⟩ := z
    rw [e1] at h
    have h : (match vName tx with | some (x, px) => (match vName ty with | some (y, py) => some (x, px, y, py) | none => none) | none => none) = some (x, px, y, py) := h
    cases e2 : vName tx with
    | none => rw [e2] at h; exact no h
    | some z =>
      obtain ⟨x', px'⟩ := z
      rw [e2] at h
      have h : (match vName ty with | some (y, py) => some (x', px', y, py) | none => none) = some (x, px, y, py) := h
      cases e3 : vName ty with
      | none => rw [e3] at h; exact no h
      | some z =>
        obtain ⟨y', py'⟩ := z
        rw [e3] at h; cases h
        rw [two_eq e1, vName_eq e2, vName_eq e3]
noncomputable def bindT (c : Cx) (σ : Sto) (t : Expr) (v : V) (k : Sto → Prop) : Prop := match vName t with
  | some (x, _) => match vPair v with
    | none => bind1 c σ x v k
    | some _ => False
  | none => match vTup t with
    | some (es, _, _) => match vPair v with
      | some (a, b) => match vNames es with
        | some (x, _, y, _) => bind2 c σ x y a b k
        | none => False
      | none => False
    | none => False

noncomputable def spAt (c : Cx) (n : Nat) : Option Sp := match c.sp with
  | l => (l.find? fun x => x.1 == n).map (·.2)

/-- what a comprehension's scope must be -/
noncomputable def compOk (c : Cx) (σ : Sto) (scope : Scope) : Bool :=
  (match scope.kind with | .function => true | _ => false) && (scope.names.lookup ("__debug__" : Str)).isNone && (scope.names.lookup ("__classdict__" : Str)).isNone &&
  scope.names.all fun x => match x.2 with
    | .cell => false
    | .local => (match scope.names.lookup x.1 with | some .local => true | _ => false)
    | .free => isCell c x.1 && (σ.ρ.lookup x.1).isSome
    | _ => true
noncomputable def compSto (scope : Scope) (σ : Sto) : Sto := { ρ := σ.ρ.filter fun y => (match scope.names.lookup y.1 with | some .free => true | _ => false), own := none }
noncomputable def compElts (v : V) (n : Nat) (P : Nat → V → Prop) : Prop := match v with
  | .poly p => p.length = n ∧ ∀ i, i < n → P i (.rat (p.getD i 0))
  | .ilst p => p.length = n ∧ ∀ i, i < n → P i (.int (p.getD i 0))
  | _ => False
noncomputable def isComp : Option Sp → Option V
  | none => none
  | some s => match s with | .comp R => some R | _ => none
noncomputable def compW (r : EVs) (c : Cx) (σ : Sto) (elt tgt iter : Expr) (ifs : List Expr) (scope : Scope) (line : Nat) (k : V → Prop) : Prop :=
  match compOk c σ scope && noSet iter with
  | false => False
  | true => itW r c σ iter fun n get =>
    match ifs with
    | [] => match isComp (spAt c line) with
      | some R => compElts R n (fun i d => bindT ⟨scope.names, []⟩ (compSto scope σ) tgt (get i) fun σ' => r.ev ⟨scope.names, []⟩ σ' elt fun v => conv v d) ∧ k R
      | none => False
    | t :: ts => match ts with
      | [] => (∀ i, i < n → bindT ⟨scope.names, []⟩ (compSto scope σ) tgt (get i) fun σ' => r.tst ⟨scope.names, []⟩ σ' t fun b => b = false) ∧ k (.poly [])
      | _ :: _ => False

noncomputable def evOpt (f : Expr → (V → Prop) → Prop) : Option Expr → (Option Int → Prop) → Prop
  | none, k => k none
  | some e, k => f e fun v => match vInt v with | some i => small i ∧ k (some i) | none => False

noncomputable def constW (k : V → Prop) : Const → Prop
  | .int i => k (.int i)
  | .bool b => k (.bool b)
  | .str x => k (.str x)
  | .none => k .none
  | _ => False
noncomputable def unW (f : (V → Prop) → Prop) (k : V → Prop) : UnaryOp → Prop
  | .USub => f fun v => match vInt v with | some i => k (.int (-i)) | none => False
  | .Not => f fun v => match vBool v with | some b => k (.bool (!b)) | none => False
  | _ => False
noncomputable def cmpG (r : EVs) (c : Cx) (σ : Sto) (l : Expr) (op : CmpOp) (rr : Expr) (k : Bool → Prop) : Prop := match cmpOk op with
  | true => r.ev c σ l fun a => r.ev c σ rr fun b => cmpW op a b k
  | false => False
noncomputable def vCmp (ops : List CmpOp) (rs : List Expr) : Option (CmpOp × Expr) := match one ops with
  | some op => match one rs with
    | some rr => some (op, rr)
    | none => none
  | none => none
theorem vCmp_eq {ops : List CmpOp} {rs : List Expr} {op rr} (h : vCmp ops rs = some (op, rr)) : ops = [op] ∧ rs = [rr] := by
  unfold vCmp at h
  cases e1 : one ops with
  | none => rw [e1] at h; exact no h
  | some x =>
    rw [e1] at h
    have h : (match one rs with | some rr => some (x, rr) | none => none) = some (op, rr) := h
    cases e2 : one rs with
    | none => rw [e2] at h; exact no h
    | some y => rw [e2] at h; cases h; exact ⟨one_eq e1, one_eq e2⟩
noncomputable def callW (T : Tab) (r : EVs) (c : Cx) (σ : Sto) (f : Str) (args : List Expr) (k : V → Prop) : Prop := match isGlob c f && args.all noStar with
  | true => match T f with
    | some S => evs (r.ev c σ) args fun vs => S vs k
    | none => False
  | false => False
noncomputable def ownN (σ : Sto) (b : Expr) : Option (List Rat) := match vName b with
  | some (x, _) => ownIs σ x
  | none => none
theorem ownN_eq {σ : Sto} {b : Expr} {q} (h : ownN σ b = some q) : ∃ x p, b = .Name x p ∧ ownIs σ x = some q := by
  unfold ownN at h
  cases e : vName b with
  | none => rw [e] at h; cases h
  | some z => obtain ⟨x, p⟩ := z; rw [e] at h; exact ⟨x, p, vName_eq e, h⟩
noncomputable def subW (r : EVs) (c : Cx) (σ : Sto) (b i : Expr) (k : V → Prop) : Prop := match vSlice i with
  | some (lo, hi, st, _) => match st with
    | none => r.ev c σ b fun v => evOpt (r.ev c σ) lo fun l => evOpt (r.ev c σ) hi fun h => cutW l h v k
    | some _ => False
  | none => match ownN σ b with
    | some q => r.ev c σ i fun iv => idxW (.poly q) iv k
    | none => r.ev c σ b fun v => r.ev c σ i fun iv => idxW v iv k

noncomputable def ev1 (T : Tab) (r : EVs) (c : Cx) (σ : Sto) (e : Expr) (k : V → Prop) : Prop := match e with
  | .Name x _ => nameW c σ x k
  | .Constant v _ _ => constW k v
  | .BinOp l op rr _ => r.ev c σ l fun a => r.ev c σ rr fun b => binW op a b k
  | .UnaryOp op x _ => unW (r.ev c σ x) k op
  | .IfExp t a b _ => r.tst c σ t fun x => (x = true → r.ev c σ a k) ∧ (x = false → r.ev c σ b k)
  | .Tuple es _ _ => evs (r.ev c σ) es fun vs => mkTup vs k
  | .List es _ => match Nat.ble es.length 100 with
    | true => evs (r.ev c σ) es fun vs => mkLst vs k
    | false => False
  | .Compare l ops rs _ => match vCmp ops rs with
    | some (op, rr) => cmpG r c σ l op rr fun x => k (.bool x)
    | none => False
  | .BoolOp op es _ => boolE (r.ev c σ) (isOp op) es k
  | .Call f args kw p => match vCallN (.Call f args kw p) with
    | some (f, _, args, _) => callW T r c σ f args k
    | none => False
  | .Subscript b i _ => subW r c σ b i k
  | .ListComp elt gens scope pos => match vGen gens with
    | some (tgt, iter, ifs) => compW r c σ elt tgt iter ifs scope pos.line k
    | none => False
  | _ => False

noncomputable def isNilList : Expr → Bool
  | .List es _ => es.isEmpty
  | _ => false
noncomputable def isNe : CmpOp → Bool
  | .NotEq => true
  | _ => false
theorem isNe_eq {op} (h : isNe op = true) : op = .NotEq := by cases op <;> first | exact noT h | rfl
noncomputable def ownNe (σ : Sto) (l : Expr) (op : CmpOp) : Option (List Rat) := match isNe op with
  | true => ownN σ l
  | false => none
noncomputable def tst1 (r : EVs) (c : Cx) (σ : Sto) (e : Expr) (k : Bool → Prop) : Prop := match e with
  | .UnaryOp op x _ => match op with
    | .Not => r.tst c σ x fun b => k (!b)
    | _ => False
  | .BoolOp op es _ => boolT (r.tst c σ) (isOp op) es k
  | .Compare l ops rs _ => match vCmp ops rs with
    | some (op, rr) => match ownNe σ l op with
      | some q => match isNilList rr with
        | true => k (!decide (q = []))
        | false => False
      | none => cmpG r c σ l op rr k
    | none => False
  | .Call f a kw p => r.ev c σ (.Call f a kw p) fun v => match vBool v with | some b => k b | none => False
  | _ => False

noncomputable def subSt : Store → Store → Prop
  | [], _ => True
  | (x, v) :: l, ρ => (match ρ.lookup x with | some u => conv u v | none => False) ∧ subSt l ρ
noncomputable def subO : Option (Str × List Rat) → Option (Str × List Rat) → Prop
  | none, b => match b with
    | none => True
    | some _ => False
  | some (x, p), b => match b with
    | none => False
    | some (y, q) => match x == y with | true => q = p | false => False
/-- the store τ holds what σ says -/
noncomputable def subS (σ τ : Sto) : Prop := subSt σ.ρ τ.ρ ∧ subO σ.own τ.own

noncomputable def blk (f : Sto → Stmt → (Sto → Prop) → Prop) : List Stmt → Sto → (Sto → Prop) → Prop
  | [], σ, k => k σ
  | s :: l, σ, k => f σ s fun σ' => blk f l σ' k

noncomputable def isListE : Expr → Bool
  | .List .. => true
  | _ => false
noncomputable def freshB (l : Expr) : Operator → Bool
  | .Mult => isListE l
  | .Add => true
  | _ => false
noncomputable def freshE : Expr → Bool
  | .List .. => true
  | .BinOp l op _ _ => freshB l op
  | _ => false
noncomputable def notComp : Expr → Bool
  | .ListComp .. => false
  | .SetComp .. => false
  | .DictComp .. => false
  | _ => true
noncomputable def setOwn (x : Str) (σ : Sto) (v : V) (k : Sto → Prop) : Prop := match vPoly v with
  | some p => k { ρ := drop x σ.ρ, own := some (x, p) }
  | none => False
noncomputable def setVar (c : Cx) (σ : Sto) (x : Str) (v : V) (k : Sto → Prop) : Prop := match (isLoc c x || isCell c x) && (ownIs σ x).isNone with
  | true => k { σ with ρ := (x, v) :: σ.ρ }
  | false => False
noncomputable def namesOf : List Expr → Option (List Str)
  | [] => some []
  | e :: r => match vName e with
    | some (x, _) => match namesOf r with
      | some l => some (x :: l)
      | none => none
    | none => none
noncomputable def distinct : List Str → Bool
  | [] => true
  | x :: r => !(r.any (· == x)) && distinct r
noncomputable def setVars (σ : Sto) : List Str → List V → (Sto → Prop) → Prop
  | [], vs, k => match vs with
    | [] => k σ
    | _ :: _ => False
  | x :: xs, vs, k => match vs with
    | [] => False
    | v :: vs => setVars { σ with ρ := (x, v) :: σ.ρ } xs vs k
noncomputable def freeze (σ : Sto) : Sto := match σ.own with
  | some (x, p) => { ρ := (x, .poly p) :: σ.ρ, own := none }
  | none => σ
noncomputable def isAppend (m : Str) : Bool := m == ("append" : Str)
noncomputable def isPop (m : Str) : Bool := m == ("pop" : Str)

noncomputable def isOwn : Option Sp → Bool
  | none => false
  | some s => match s with | .own => true | _ => false
/-- a name takes a value -/
noncomputable def nmW (r : EVs) (c : Cx) (σ : Sto) (x : Str) (e : Expr) (line : Nat) (kN : Sto → Prop) : Prop := match notComp e with
  | true => match isOwn (spAt c line) with
    | true => match isLoc c x && freshE e with
      | true => r.ev c σ e fun v => setOwn x σ v kN
      | false => False
    | false => r.ev c σ e fun v => setVar c σ x v kN
  | false => match vComp e with
    | some (elt, gens, scope, p) => match vGen gens with
      | some (tgt, iter, ifs) => compW r c σ elt tgt iter ifs scope p.line fun v => setVar c σ x v kN
      | none => False
    | none => False
noncomputable def twoW (r : EVs) (c : Cx) (σ : Sto) (x y : Str) (e₁ e₂ : Expr) (line : Nat) (kN : Sto → Prop) : Prop :=
  match isLoc c x && isLoc c y && !(x == y) && (ownIs σ x).isNone && (ownIs σ y).isNone && !([e₁, e₂].all (constantsAlone 8)) with
  | true => match isOwn (spAt c line) with
    | true => match freshE e₂ with
      | true => r.ev c σ e₁ fun a => r.ev c σ e₂ fun b => setOwn y { σ with ρ := (x, a) :: σ.ρ } b kN
      | false => False
    | false => r.ev c σ e₁ fun a => r.ev c σ e₂ fun b => kN { σ with ρ := (y, b) :: (x, a) :: σ.ρ }
  | false => False
noncomputable def manyW (r : EVs) (c : Cx) (σ : Sto) (ts es : List Expr) (kN : Sto → Prop) : Prop := match namesOf ts with
  | some xs => match decide (4 ≤ ts.length) && Nat.ble es.length 100 && xs.all (fun x => isLoc c x && (ownIs σ x).isNone) with
    | true => evs (r.ev c σ) es fun vs => setVars σ xs vs kN
    | false => False
  | none => False
noncomputable def tupW (r : EVs) (c : Cx) (σ : Sto) (ts : List Expr) (k : Nat) (p : Pos) (e : Expr) (line : Nat) (kN : Sto → Prop) : Prop := match vTup e with
  | some (es, _, _) => match vNames ts with
    | some (x, _, y, _) => match two es with
      | some (e₁, e₂) => twoW r c σ x y e₁ e₂ line kN
      | none => False
    | none => manyW r c σ ts es kN
  | none => match vNames ts with
    | some _ => r.ev c σ e fun v => bindT c σ (.Tuple ts k p) v kN
    | none => False
noncomputable def setW (r : EVs) (c : Cx) (σ : Sto) (x : Str) (i e : Expr) (kN : Sto → Prop) : Prop := match ownIs σ x with
  | some p => match plainIx i with
    | true => r.ev c σ e fun v => r.ev c σ i fun iv => match vInt iv with
      | some j => asRat v fun q => (0 ≤ j ∧ j < p.length ∧ p.length ≤ szL) ∧ kN { σ with own := some (x, p.set j.toNat q) }
      | none => False
    | false => False
  | none => False
noncomputable def asgW (r : EVs) (c : Cx) (σ : Sto) (t e : Expr) (line : Nat) (kN : Sto → Prop) : Prop := match t with
  | .Name x _ => nmW r c σ x e line kN
  | .Tuple ts k p => tupW r c σ ts k p e line kN
  | .Subscript b i _ => match vName b with
    | some (x, _) => setW r c σ x i e kN
    | none => False
  | _ => False
noncomputable def intAt (σ : Sto) (x : Str) : Option Int := match σ.ρ.lookup x with
  | some v => vInt v
  | none => none
noncomputable def isSub : Operator → Bool
  | .Sub => true
  | _ => false
theorem isSub_eq {op} (h : isSub op = true) : op = .Sub := by cases op <;> first | exact noT h | rfl
noncomputable def augW (r : EVs) (c : Cx) (σ : Sto) (x : Str) (e : Expr) (kN : Sto → Prop) : Prop := match intAt σ x with
  | some a => r.ev c σ e fun v => match vInt v with
    | some b => setVar c σ x (.int (a - b)) kN
    | none => False
  | none => False
noncomputable def appW (r : EVs) (c : Cx) (σ : Sto) (x m : Str) (same : Bool) (e : Expr) (kN : Sto → Prop) : Prop := match isAppend m && same && noStar e with
  | true => match ownIs σ x with
    | some p => r.ev c σ e fun v => asRat v fun q => p.length < szL ∧ kN { σ with own := some (x, p ++ [q]) }
    | none => False
  | false => False
noncomputable def popW (σ : Sto) (x m : Str) (same : Bool) (kN : Sto → Prop) : Prop := match isPop m && same with
  | true => match ownIs σ x with
    | some p => (p ≠ [] ∧ p.length ≤ szL) ∧ kN { σ with own := some (x, p.dropLast) }
    | none => False
  | false => False
noncomputable def methW (r : EVs) (c : Cx) (σ : Sto) (x m : Str) (same : Bool) (args : List Expr) (kN : Sto → Prop) : Prop := match args with
  | [] => popW σ x m same kN
  | e :: es => match es with
    | [] => appW r c σ x m same e kN
    | _ :: _ => False
noncomputable def whileW (r : EVs) (c : Cx) (σ : Sto) (t : Expr) (body : List Stmt) (kR : V → Prop) (kN : Sto → Prop) : Option Sp → Prop
  | some s => match s with
    | .whl _ I μ J x0 inner => (I x0 ∧ subS (J x0) σ) ∧
        ∀ x, I x → r.tst ⟨c.ks, inner x⟩ (J x) t fun b => (b = true → blk (fun τ s k => r.ex ⟨c.ks, inner x⟩ τ s kR k) body (J x) fun τ => ∃ y, (I y ∧ μ y < μ x) ∧ subS (J y) τ) ∧ (b = false → kN (J x))
    | .whe _ I μ J inner => (∃ x0, I x0 ∧ subS (J x0) σ) ∧
        ∀ x, I x → r.tst ⟨c.ks, inner x⟩ (J x) t fun b => (b = true → blk (fun τ s k => r.ex ⟨c.ks, inner x⟩ τ s kR k) body (J x) fun τ => ∃ y, (I y ∧ μ y < μ x) ∧ subS (J y) τ) ∧ (b = false → kN (J x))
    | _ => False
  | none => False
noncomputable def forW (r : EVs) (c : Cx) (σ : Sto) (tgt : Expr) (body : List Stmt) (kR : V → Prop) (kN : Sto → Prop) (n : Nat) (get : Nat → V) : Option Sp → Prop
  | some s => match s with
    | .loop _ I J x0 inner => (I 0 x0 ∧ subS (J 0 x0) σ) ∧
          (∀ i x, i < n → I i x → bindT c (J i x) tgt (get i) fun τ => blk (fun τ s k => r.ex ⟨c.ks, inner i x⟩ τ s kR k) body τ fun τ' => ∃ y, I (i + 1) y ∧ subS (J (i + 1) y) τ') ∧
          ∀ x, I n x → kN (J n x)
    | .loe _ I J inner => (∃ x0, I 0 x0 ∧ subS (J 0 x0) σ) ∧
          (∀ i x, i < n → I i x → bindT c (J i x) tgt (get i) fun τ => blk (fun τ s k => r.ex ⟨c.ks, inner i x⟩ τ s kR k) body τ fun τ' => ∃ y, I (i + 1) y ∧ subS (J (i + 1) y) τ') ∧
          ∀ x, I n x → kN (J n x)
    | _ => False
  | none => False
noncomputable def ex1 (r : EVs) (c : Cx) (σ : Sto) (b : Stmt) (kR : V → Prop) (kN : Sto → Prop) : Prop := match b with
  | .Assign ts e pos => match one ts with
    | some t => asgW r c σ t e pos.line kN
    | none => False
  | .AugAssign t op e _ => match vName t with
    | some (x, _) => match isSub op with
      | true => augW r c σ x e kN
      | false => False
    | none => False
  | .Expr e _ => match vMeth e with
    | some (x, _, m, ap, args, cp) => methW r c σ x m (ap.endLine == cp.line) args kN
    | none => False
  | .If t a b _ => r.tst c σ t fun x => (x = true → blk (fun τ s k => r.ex c τ s kR k) a σ kN) ∧ (x = false → blk (fun τ s k => r.ex c τ s kR k) b σ kN)
  | .Return v _ => match v with
    | some e => r.ev c (freeze σ) e kR
    | none => False
  | .While t body els pos => match els with
    | [] => whileW r c σ t body kR kN (spAt c pos.line)
    | _ :: _ => False
  | .For tgt iter body els pos => match els with
    | [] => match noSet iter with
      | true => itW r c σ iter fun n get => forW r c σ tgt body kR kN n get (spAt c pos.line)
      | false => False
    | _ :: _ => False
  | _ => False

noncomputable def EV (T : Tab) : Nat → EVs
  | 0 => ⟨fun _ _ _ _ => False, fun _ _ _ _ => False, fun _ _ _ _ _ => False⟩
  | n + 1 => ⟨fun c σ => ev1 T (EV T n) c σ, fun c σ => tst1 (EV T n) c σ, fun c σ => ex1 (EV T n) c σ⟩

noncomputable def vc (T : Tab) (n : Nat) (c : Cx) (body : List Stmt) (σ : Sto) (kR : V → Prop) (kN : Sto → Prop) : Prop :=
  blk (fun τ s k => (EV T n).ex c τ s kR k) body σ kN
end Mine

namespace Mine

theorem rInts {X : Av} {h : Heap} {a b : V} {v : Value} {i j : Int} (e : vInts a b = some (i, j)) (r : Rep X h (.pair a b) v) {q : Rat} (h1 : q.num = i) (h2 : (q.den : Int) = j) : RRat X h q v := by
  obtain ⟨rfl, rfl⟩ := vInts_eq e
  obtain ⟨p, u, t, e', z', t', r1, r2⟩ := r
  subst h1 h2
  exact ⟨p, _, e', z', t', r1, r2, trivial⟩
theorem nilRep {X : Av} {h : Heap} {v : Value} {α β : Type} {P : α → Value → Prop} {P' : β → Value → Prop} (r : RLst X h (LR P []) v) : RLst X h (LR P' []) v := by
  obtain ⟨a, vs, e, z, t, l⟩ := r
  cases vs with
  | nil => exact ⟨a, [], e, z, t, trivial⟩
  | cons _ _ => exact l.elim
theorem conv_ok {X : Av} {h : Heap} : ∀ {a b : V} {v : Value}, conv a b → Rep X h a v → Rep X h b v := by
  intro a b v c r
  induction a generalizing b v with
  | pair x y ihx ihy =>
    cases b with
    | pair z w =>
      have c' : conv x z ∧ conv y w := c
      obtain ⟨p, u, t, e, z', t', r1, r2⟩ := r
      exact ⟨p, u, t, e, z', t', ihx c'.1 r1, ihy c'.2 r2⟩
    | rat q =>
      have c' : cvInts x y q := c
      unfold cvInts at c'
      split at c'
      · rename_i e
        exact rInts e r c'.1 c'.2
      · exact c'.elim
    | _ => exact False.elim c
  | poly p => cases b with
    | poly q => exact Eq.subst (motive := fun q => Rep X h (.poly q) v) c r
    | ilst q => obtain ⟨rfl, rfl⟩ : p = [] ∧ q = [] := c; exact nilRep r
    | polys q => obtain ⟨rfl, rfl⟩ : p = [] ∧ q = [] := c; exact nilRep r
    | _ => exact False.elim c
  | int i => cases b with
    | int j => exact Eq.subst (motive := fun q => Rep X h (.int q) v) c r
    | _ => exact False.elim c
  | bool i => cases b with
    | bool j => exact Eq.subst (motive := fun q => Rep X h (.bool q) v) c r
    | _ => exact False.elim c
  | str i => cases b with
    | str j => exact Eq.subst (motive := fun q => Rep X h (.str q) v) c r
    | _ => exact False.elim c
  | rat i => cases b with
    | rat j => exact Eq.subst (motive := fun q => Rep X h (.rat q) v) c r
    | _ => exact False.elim c
  | ilst i => cases b with
    | ilst j => exact Eq.subst (motive := fun q => Rep X h (.ilst q) v) c r
    | _ => exact False.elim c
  | polys i => cases b with
    | polys j => exact Eq.subst (motive := fun q => Rep X h (.polys q) v) c r
    | _ => exact False.elim c
  | rats i => cases b with
    | rats j => exact Eq.subst (motive := fun q => Rep X h (.rats q) v) c r
    | _ => exact False.elim c
  | none => cases b with
    | none => exact r
    | _ => exact False.elim c
  | box => cases b with
    | box => exact r
    | _ => exact False.elim c

theorem asRat_ok {d : V} {k : Rat → Prop} (h : asRat d k) : ∃ q, k q ∧ ∀ X hp v, Rep X hp d v → RRat X hp q v := by
  cases d with
  | rat q => exact ⟨q, h, fun _ _ _ r => r⟩
  | pair a b =>
    unfold asRat at h
    dsimp only at h
    split at h
    · rename_i e
      obtain ⟨q, ⟨h1, h2⟩, hk⟩ := h
      exact ⟨q, hk, fun X hp v r => rInts e r h1 h2⟩
    · exact h.elim
  | _ => exact False.elim h
theorem asRats_ok : ∀ {ds : List V} {k : List Rat → Prop}, asRats ds k → ∃ l, k l ∧ ∀ X hp vs, LR (Rep X hp) ds vs → LR (RRat X hp) l vs
  | [], k, h => ⟨[], h, fun _ _ vs r => by cases vs with | nil => trivial | cons _ _ => exact r.elim⟩
  | d :: ds, k, h => by
    obtain ⟨q, h1, r1⟩ := asRat_ok h
    obtain ⟨l, h2, r2⟩ := asRats_ok h1
    refine ⟨q :: l, h2, fun X hp vs r => ?_⟩
    cases vs with
    | nil => exact r.elim
    | cons v vs => exact ⟨r1 _ _ _ r.1, r2 _ _ _ r.2⟩
theorem asPolys_ok : ∀ {ds : List V} {k : List (List Rat) → Prop}, asPolys ds k → ∃ l, k l ∧ ∀ X hp vs, LR (Rep X hp) ds vs → LR (RPoly X hp) l vs
  | [], k, h => ⟨[], h, fun _ _ vs r => by cases vs with | nil => trivial | cons _ _ => exact r.elim⟩
  | d :: ds, k, h => by
    replace h : (match vPoly d with | some p => asPolys ds fun l => k (p :: l) | none => False) := h
    split at h
    · rename_i p e
      obtain rfl := vPoly_eq e
      obtain ⟨l, h2, r2⟩ := asPolys_ok h
      refine ⟨_ :: l, h2, fun X hp vs r => ?_⟩
      cases vs with
      | nil => exact r.elim
      | cons v vs => exact ⟨r.1, r2 _ _ _ r.2⟩
    · exact h.elim

/-- the addresses to be avoided are there -/
noncomputable def Zin (X : Av) (s : Shared) : Prop := ∀ a ∈ X.Z, a < s.heap.objs.size
theorem Zin.fresh {X : Av} {s : Shared} (z : Zin X s) : s.heap.objs.size ∉ X.Z := fun m => Nat.lt_irrefl _ (z _ m)
theorem none_of_size {h : Heap} : h.get? h.objs.size = none := by
  cases e : h.get? h.objs.size with
  | none => rfl
  | some o => exact absurd (Heap.lt_size e) (Nat.lt_irrefl _)
theorem LstAt.push {h : Heap} {vs : List Value} : LstAt (h.push { cls := .type "list", data := .seq vs.toArray }) h.objs.size vs := ⟨_, Heap.get?_push_size _ rfl⟩
theorem TupAt.push {h : Heap} {vs : List Value} : TupAt (h.push { cls := .type "tuple", data := .seq vs.toArray }) h.objs.size vs := ⟨_, Heap.get?_push_size _ rfl⟩
theorem LstAt.isList {h : Heap} {a vs} (x : LstAt h a vs) : h.IsList a vs.toArray := let ⟨n, e⟩ := x; ⟨_, e, rfl, n, rfl⟩
theorem LstAt.plain {h : Heap} {a vs} (x : LstAt h a vs) : h.PlainList a vs.toArray := x
theorem TupAt.isTup {h : Heap} {a vs} (x : TupAt h a vs) : IsTup h a vs.toArray := let ⟨n, e⟩ := x; ⟨_, e, rfl, n, rfl⟩
theorem LR.repl {R : Rat → Value → Prop} {p : List Rat} {vs : List Value} (h : LR R p vs) : ∀ n, LR R (List.replicate n p).flatten (List.replicate n vs).flatten
  | 0 => trivial
  | n + 1 => by simp only [List.replicate_succ, List.flatten_cons]; exact h.append (LR.repl h n)

theorem szL_le : szL ≤ sizeLine := by decide
theorem fold_repl (vs : List Value) : ∀ (n : Nat) (acc : Array Value), List.foldl (fun x1 x2 => x1 ++ x2) acc (List.replicate n vs.toArray) = acc ++ (List.replicate n vs).flatten.toArray
  | 0, acc => by simp
  | n + 1, acc => by
    rw [List.replicate_succ, List.foldl_cons, fold_repl vs n]
    simp [List.replicate_succ]

section
variable {prog : Program} {w : World} {A : Around} {E : Value → Shared → Prop} {s : Shared} {X : Av}

noncomputable def okQ (X : Av) (s : Shared) (k : V → Prop) (Q : Value → Shared → Prop) : Prop :=
  ∀ d v s', k d → Stp X s s' → Rep X s'.heap d v → (∀ a, v = .ref a → s.heap.get? a = none) → Q v s'

theorem mulL {l : Addr} {vs : List Value} {x : Int} {u : Tok} {Q : Value → Shared → Prop} (hl : LstAt s.heap l vs)
    (hlo : -(2 ^ 63 : Int) ≤ x) (hhi : x < 2 ^ 63) (hsz : vs.length * x.toNat ≤ 2 ^ 24)
    (h : Q (.ref s.heap.objs.size) { s with heap := s.heap.push { cls := .type "list", data := .seq (List.replicate x.toNat vs).flatten.toArray } }) :
    wpAny (model prog w) A (binaryOp .Mult (.ref l) (.int x u)) Q E s := by
  obtain ⟨k, hl⟩ := hl
  have e : List.foldl (fun x1 x2 => x1 ++ x2) #[] (List.replicate (if vs.toArray.isEmpty = true then 0 else x.toNat) vs.toArray) = (List.replicate x.toNat vs).flatten.toArray := by
    rw [fold_repl]
    cases vs with
    | nil => simp
    | cons v vs => simp
  refine wpAny_binaryOp_repeat_ref (T := "list") (U := "int") (by decide) ⟨_, hl, rfl⟩ (fun s' => typeIs_int s' x u) noFill_list_mul F.fills_int_mul F.slot_int_rmul repeat_list F.slot_int_index.lookup
    (call_meets F.slot_int_rmul (typeIs_int s x u) F.entry_int_rmul (F.args_int_rmul_2 _ _) (int___rmul___int_list x u l vs.toArray k)
      ⟨hl, rfl, ⟨_, hl, rfl⟩, call_meets F.slot_list_mul ⟨_, hl, rfl⟩ F.entry_list_mul (F.args_list_mul_2 _ _)
        (AutoListH.list___mul___list_int_3 l vs.toArray k x u (by simp [Builtin.List.listFitsIndex]; omega) (by simp; omega) (by simp [Builtin.List.listTooLong, sizeLine]; omega))
        ⟨hl, ?_⟩⟩)
  rw [e]; exact h

theorem addL {l b : Addr} {vs ws : List Value} {Q : Value → Shared → Prop} (hl : LstAt s.heap l vs) (hb : LstAt s.heap b ws)
    (h : Q (.ref s.heap.objs.size) { s with heap := s.heap.push { cls := .type "list", data := .seq (vs ++ ws).toArray } })
    (hsz : vs.length + ws.length ≤ sizeLine) :
    wpAny (model prog w) A (binaryOp .Add (.ref l) (.ref b)) Q E s := by
  obtain ⟨n, ho⟩ := hl
  obtain ⟨n2, ho2⟩ := hb
  have e : vs.toArray ++ ws.toArray = (vs ++ ws).toArray := by simp
  refine concat_meets ⟨_, ho, rfl⟩ ⟨_, ho2, rfl⟩ noFill_list_add seq_list_add PySem.F.slot_list_add PySem.F.entry_list_add (PySem.F.args_list_add_2 _ _) (list_addW l b vs.toArray ws.toArray n n2 none none #[] #[] (by simpa using hsz)) ⟨ho, ho2, ?_⟩
  rw [e]; exact h

theorem binW_ok {op : Operator} {a b : V} {va vb : Value} {k : V → Prop} {Q : Value → Shared → Prop} (z : Zin X s) (room : PylongRoom (model prog w) A s)
    (h : binW op a b k) (ra : Rep X s.heap a va) (rb : Rep X s.heap b vb) (hQ : okQ X s k Q) : wpAny (model prog w) A (binaryOp op va vb) Q E s := by
  have noA : ∀ {v : Value} {u : Tok} {i : Int}, v = .int i u → ∀ a, v = .ref a → s.heap.get? a = none := by rintro _ _ _ rfl a e; cases e
  unfold binW at h
  split at h
  · rename_i p e
    obtain rfl := vPoly_eq e
    obtain ⟨l, vs, rfl, zl, hl, rl⟩ := ra
    have up : ∀ {q : List Rat} {ws : List Value} {o : Obj}, LR (RRat X s.heap) q ws → LR (RRat X (s.heap.push o)) q ws := fun r => r.mono fun _ _ ⟨a, us, e, za, ⟨n, ta⟩, r⟩ => ⟨a, us, e, za, ⟨n, Heap.get?_push_of_some _ ta⟩, r⟩
    have fin : ∀ {a : Addr}, (Value.ref s.heap.objs.size) = .ref a → s.heap.get? a = none := fun e => by cases e; exact none_of_size
    cases op with
    | Add =>
      dsimp only [polyW] at h
      split at h
      · rename_i q e
        obtain rfl := vPoly_eq e
        obtain ⟨m, ws, rfl, zm, hm, rm⟩ := rb
        exact addL hl hm (hQ _ _ _ h.2 .push ⟨_, _, rfl, z.fresh, .push, up (rl.append rm)⟩ fun _ => fin) (by rw [rl.length, rm.length]; exact Nat.le_trans h.1 szL_le)
      · exact h.elim
    | Mult =>
      dsimp only [polyW] at h
      split at h
      · rename_i q e
        obtain rfl := vInt_eq e
        obtain ⟨u, rfl⟩ := rb
        exact mulL hl (by omega) (by omega) (by rw [rl.length]; have := h.1.1; unfold szL at this; omega) (hQ _ _ _ h.2 .push ⟨_, _, rfl, z.fresh, .push, up (rl.repl _)⟩ fun _ => fin)
      · exact h.elim
    | _ => exact False.elim h
  · split at h
    · rename_i i j e
      obtain ⟨rfl, rfl⟩ := vInts_eq e
      obtain ⟨t, rfl⟩ := ra; obtain ⟨u, rfl⟩ := rb
      cases op with
      | Add => exact add_int (hQ _ _ _ h .toks ⟨_, rfl⟩ (noA rfl))
      | Sub => exact sub_int (hQ _ _ _ h .toks ⟨_, rfl⟩ (noA rfl))
      | Mult => exact mul_int (hQ _ _ _ h.2 .toks ⟨_, rfl⟩ (noA rfl)) h.1
      | FloorDiv => exact floordiv_int h.1 (hQ _ _ _ h.2 .toks ⟨_, rfl⟩ (noA rfl)) (Or.inr room)
      | Mod => exact mod_int' h.1 (hQ _ _ _ h.2 .toks ⟨_, rfl⟩ (noA rfl))
      | _ => exact False.elim h
    · exact h.elim
end
end Mine

namespace Mine

noncomputable def datR (q : Rat) : PyData := .tuple [.int q.num, .int q.den]
noncomputable def datP (p : List Rat) : PyData := .list (p.map datR)
noncomputable def dat : V → PyData
  | .int i => .int i
  | .bool b => .bool b
  | .none => .none
  | .str x => .str x
  | .rat q => datR q
  | .pair a b => .tuple [dat a, dat b]
  | .ilst l => .list (l.map .int)
  | .poly p => datP p
  | .polys l => .list (l.map datP)
  | .rats l => .tuple (l.map datR)
  | .box => .none

theorem reads_rat {X : Av} {h : Heap} {q : Rat} {v : Value} (r : RRat X h q v) : ∃ as, Reads h v (datR q) as := by
  obtain ⟨a, vs, rfl, _, ⟨n, t⟩, l⟩ := r
  obtain ⟨x, y, rfl, ⟨t1, rfl⟩, ⟨t2, rfl⟩⟩ := l.two
  exact ⟨_, reads_tuple_at t rfl rfl (.cons (.int _ _) (.cons (.int _ _) .nil))⟩
theorem reads_all {α : Type} {R : α → Value → Prop} {h : Heap} {f : α → PyData} (hR : ∀ a v, R a v → ∃ as, Reads h v (f a) as) {l : List α} {vs : List Value} (r : LR R l vs) : ∃ as, ReadsAll h vs (l.map f) as := by
  induction l generalizing vs with
  | nil => rw [r.none]; exact ⟨_, .nil⟩
  | cons a l ih =>
    obtain ⟨v, ws, rfl, x, q⟩ := r.cons
    obtain ⟨as, x⟩ := hR _ _ x
    obtain ⟨bs, y⟩ := ih q
    exact ⟨_, .cons x y⟩
theorem reads_poly {X : Av} {h : Heap} {p : List Rat} {v : Value} (r : RPoly X h p v) : ∃ as, Reads h v (datP p) as := by
  obtain ⟨a, vs, rfl, _, ⟨n, t⟩, l⟩ := r
  obtain ⟨as, q⟩ := reads_all (fun _ _ x => reads_rat x) l
  exact ⟨_, reads_list_at t rfl rfl (by simpa using q)⟩
theorem reads {X : Av} {h : Heap} : ∀ {d : V} {v : Value}, Rep X h d v → (d = .box ∨ ∃ a b, d = .pair a b) ∨ ∃ as, Reads h v (dat d) as := by
  intro d v r
  cases d with
  | int i => obtain ⟨t, rfl⟩ := r; exact .inr ⟨_, .int _ _⟩
  | bool b => cases r; exact .inr ⟨_, .bool _⟩
  | none => cases r; exact .inr ⟨_, .none⟩
  | str x => obtain ⟨t, rfl⟩ := r; exact .inr ⟨_, .str _ _⟩
  | rat q => exact .inr (reads_rat r)
  | pair a b => exact .inl (.inr ⟨_, _, rfl⟩)
  | ilst l =>
    obtain ⟨a, vs, rfl, _, ⟨n, t⟩, l⟩ := r
    obtain ⟨as, q⟩ := reads_all (h := h) (f := PyData.int) (fun _ _ ⟨t, e⟩ => by subst e; exact ⟨_, Reads.int _ _⟩) l
    exact .inr ⟨_, reads_list_at t rfl rfl (by simpa using q)⟩
  | poly p => exact .inr (reads_poly r)
  | polys l =>
    obtain ⟨a, vs, rfl, _, ⟨n, t⟩, l⟩ := r
    obtain ⟨as, q⟩ := reads_all (fun _ _ x => reads_poly x) l
    exact .inr ⟨_, reads_list_at t rfl rfl (by simpa using q)⟩
  | rats l =>
    obtain ⟨a, vs, rfl, _, ⟨n, t⟩, l⟩ := r
    obtain ⟨as, q⟩ := reads_all (fun _ _ x => reads_rat x) l
    exact .inr ⟨_, reads_tuple_at t rfl rfl (by simpa using q)⟩
  | box => exact .inl (.inl rfl)
theorem reads_pair {X : Av} {h : Heap} {a b : V} {v : Value} (r : Rep X h (.pair a b) v) (fa : ∀ x, Rep X h a x → ∃ as, Reads h x (dat a) as) (fb : ∀ x, Rep X h b x → ∃ as, Reads h x (dat b) as) :
    ∃ as, Reads h v (dat (.pair a b)) as := by
  obtain ⟨p, x, y, rfl, _, ⟨n, t⟩, r1, r2⟩ := r
  obtain ⟨as, q1⟩ := fa _ r1
  obtain ⟨bs, q2⟩ := fb _ r2
  exact ⟨_, reads_tuple_at t rfl rfl (.cons q1 (.cons q2 .nil))⟩

theorem all_lay {α : Type} {f : α → PyData} (hf : ∀ a, (f a).canLay0 = true) : ∀ l : List α, PyData.canLayAll0 (l.map f) = true
  | [] => rfl
  | a :: l => by simp [PyData.canLayAll0, hf a, all_lay hf l]
theorem all_depth {α : Type} {f : α → PyData} {n : Nat} (hf : ∀ a, (f a).depth ≤ n) : ∀ l : List α, PyData.depthAll (l.map f) ≤ n
  | [] => by simp [PyData.depthAll]
  | a :: l => by simp only [List.map_cons, PyData.depthAll]; have := hf a; have := all_depth hf l; omega
theorem datR_lay (q : Rat) : (datR q).canLay0 = true := by simp [datR, PyData.canLay0, PyData.canLayAll0]
theorem datR_depth (q : Rat) : (datR q).depth ≤ 1 := by simp [datR, PyData.depth, PyData.depthAll]
theorem datP_lay (q : List Rat) : (datP q).canLay0 = true := by simp only [datP, PyData.canLay0]; exact all_lay datR_lay q
theorem datP_depth (q : List Rat) : (datP q).depth ≤ 2 := by simp only [datP, PyData.depth]; have := all_depth datR_depth q; omega

theorem eqvAll_map {α : Type} {f : α → PyData} {a b : List α} (hf : ∀ x ∈ a, ∀ y ∈ b, PyData.eqv (f x) (f y) = true ↔ x = y) : PyData.eqvAll (a.map f) (b.map f) = true ↔ a = b := by
  induction a generalizing b with
  | nil => cases b <;> simp [PyData.eqvAll]
  | cons x a ih =>
    cases b with
    | nil => simp [PyData.eqvAll]
    | cons y b =>
      simp only [List.map_cons, PyData.eqvAll, Bool.and_eq_true, List.cons.injEq]
      rw [hf x (by simp) y (by simp), ih fun x hx y hy => hf x (by simp [hx]) y (by simp [hy])]
theorem eqv_datR (p q : Rat) : PyData.eqv (datR p) (datR q) = true ↔ p = q := by
  simp only [datR, PyData.eqv, PyData.eqvAll, Bool.and_eq_true, Bool.and_true, beq_iff_eq, decide_eq_true_eq]
  constructor
  · rintro ⟨h1, h2⟩; exact Rat.ext h1 (by exact_mod_cast h2)
  · rintro rfl; exact ⟨rfl, rfl⟩
theorem eqv_datP (p q : List Rat) : PyData.eqv (datP p) (datP q) = true ↔ p = q := by
  simp only [datP, PyData.eqv]; exact eqvAll_map fun x _ y _ => eqv_datR x y

/-- what may be held against one another -/
noncomputable def Good (X : Av) (h : Heap) (d : V) : Prop := (∀ v, Rep X h d v → ∃ as, Reads h v (dat d) as) ∧ (dat d).canLay0 = true ∧ (dat d).depth ≤ 4
theorem good_pair {X : Av} {h : Heap} {a b : Int} : Good X h (.pair (.int a) (.int b)) :=
  ⟨fun _ r => reads_pair r (fun _ ⟨t, e⟩ => by subst e; exact ⟨_, Reads.int _ _⟩) (fun _ ⟨t, e⟩ => by subst e; exact ⟨_, Reads.int _ _⟩), by simp [dat, PyData.canLay0, PyData.canLayAll0], by simp [dat, PyData.depth, PyData.depthAll]⟩
theorem good_flat {X : Av} {h : Heap} {d : V} (h1 : d ≠ .box) (h2 : ∀ a b, d ≠ .pair a b) (h3 : ∀ x, d = .str x → PyData.strOk x = true) : Good X h d := by
  refine ⟨fun v r => (reads r).elim (fun x => x.elim (fun e => (h1 e).elim) fun ⟨a, b, e⟩ => (h2 a b e).elim) id, ?_, ?_⟩
  · cases d with
    | str x => simpa [dat, PyData.canLay0] using h3 x rfl
    | rat q => exact datR_lay q
    | poly p => exact datP_lay p
    | ilst l => simp only [dat, PyData.canLay0]; exact all_lay (fun _ => by simp [PyData.canLay0]) l
    | polys l => simp only [dat, PyData.canLay0]; exact all_lay datP_lay l
    | rats l => simp only [dat, PyData.canLay0]; exact all_lay datR_lay l
    | pair a b => exact (h2 _ _ rfl).elim
    | _ => simp [dat, PyData.canLay0]
  · cases d with
    | rat q => exact Nat.le_trans (datR_depth q) (by decide)
    | poly p => exact Nat.le_trans (datP_depth p) (by decide)
    | ilst l => simp only [dat, PyData.depth]; have := all_depth (f := PyData.int) (n := 0) (fun _ => by simp [PyData.depth]) l; omega
    | polys l => simp only [dat, PyData.depth]; have := all_depth datP_depth l; omega
    | rats l => simp only [dat, PyData.depth]; have := all_depth datR_depth l; omega
    | pair a b => exact (h2 _ _ rfl).elim
    | _ => simp [dat, PyData.depth]
theorem good_flat' {X : Av} {h : Heap} {d : V} (e : (match d with | .int _ => true | .bool _ => true | .rat _ => true | .ilst _ => true | .poly _ => true | .polys _ => true | _ => false) = true) : Good X h d :=
  good_flat (by rintro rfl; exact noT e) (by rintro _ _ rfl; exact noT e) (by rintro _ rfl; exact noT e)
theorem nil_eqv {α : Type} {f : α → PyData} {l : List α} : PyData.eqv (.list (l.map f)) (datP []) = true ↔ decide (l = []) = true := by
  cases l <;> simp [datP, PyData.eqv, PyData.eqvAll]
noncomputable def FOk (X : Av) (h : Heap) (a b : V) (x : Bool) : Prop := Good X h a ∧ Good X h b ∧ (PyData.eqv (dat a) (dat b) = true ↔ x = true)
theorem eqF_ok {X : Av} {h : Heap} {a b : V} {x : Bool} (e : eqF a b = some x) : FOk X h a b x := by
  cases b with
  | int j =>
    dsimp only [eqF] at e
    split at e
    · rename_i i e'; obtain rfl := vInt_eq e'; cases e
      exact ⟨good_flat' rfl, good_flat' rfl, by simp [dat, PyData.eqv]⟩
    · exact no e
  | bool j =>
    dsimp only [eqF] at e
    split at e
    · rename_i i e'; obtain rfl := vBool_eq e'; cases e
      exact ⟨good_flat' rfl, good_flat' rfl, by simp [dat, PyData.eqv]⟩
    · exact no e
  | rat q => cases a with
    | rat p => cases e; exact ⟨good_flat' rfl, good_flat' rfl, by simp only [dat, eqv_datR, decide_eq_true_eq]⟩
    | _ => exact no e
  | pair u v => cases a with
    | rat p =>
      dsimp only [eqF] at e
      split at e
      · rename_i i j e'; obtain ⟨rfl, rfl⟩ := vInts_eq e'; cases e
        exact ⟨good_flat' rfl, good_pair, by simp [dat, datR, PyData.eqv, PyData.eqvAll]⟩
      · exact no e
    | _ => exact no e
  | ilst q => cases a with
    | ilst p => cases e; exact ⟨good_flat' rfl, good_flat' rfl, by simp only [dat, PyData.eqv, decide_eq_true_eq]; exact eqvAll_map fun _ _ _ _ => by simp [PyData.eqv]⟩
    | _ => exact no e
  | poly q => cases a with
    | poly p => cases e; exact ⟨good_flat' rfl, good_flat' rfl, by simp only [dat, eqv_datP, decide_eq_true_eq]⟩
    | ilst p => cases q with
      | nil => cases e; exact ⟨good_flat' rfl, good_flat' rfl, nil_eqv⟩
      | cons _ _ => exact no e
    | polys p => cases q with
      | nil => cases e; exact ⟨good_flat' rfl, good_flat' rfl, nil_eqv⟩
      | cons _ _ => exact no e
    | _ => exact no e
  | _ => exact no e

theorem shaped_of {d : PyData} (h1 : d.canLay0 = true) (h2 : d.depth ≤ 4 + 4) : SeqAt.shaped d = true := by
  simp only [SeqAt.shaped, h1, Bool.true_and, decide_eq_true_eq]; omega

section
variable {prog : Program} {w : World} {A : Around} {E : Value → Shared → Prop} {s : Shared} {X : Av}
theorem eqV_ok {a b : V} {va vb : Value} {x : Bool} {Q : Value → Shared → Prop} (hu : A.units + 64 < cLine)
    (e : eqV a b = some x) (ra : Rep X s.heap a va) (rb : Rep X s.heap b vb) :
    (Q (.bool x) s → wpAny (model prog w) A (compareOp .Eq va vb) Q E s) ∧ (Q (.bool (!x)) s → wpAny (model prog w) A (compareOp .NotEq va vb) Q E s) := by
  have key : ∃ as bs, Reads s.heap va (dat a) as ∧ Reads s.heap vb (dat b) bs ∧ SeqAt.shaped (dat a) = true ∧ SeqAt.shaped (dat b) = true ∧ PyData.eqv (dat a) (dat b) = x := by
    unfold eqV at e
    split at e
    · rename_i a1 a2 ea
      obtain rfl := vPair_eq ea
      split at e
      · rename_i b1 b2 eb
        obtain rfl := vPair_eq eb
        unfold eqP at e
        split at e
        · rename_i x1 e1
          split at e
          · rename_i x2 e2
            cases e
            obtain ⟨g1, g2, q1⟩ := eqF_ok (X := X) (h := s.heap) e1
            obtain ⟨g3, g4, q2⟩ := eqF_ok (X := X) (h := s.heap) e2
            obtain ⟨as, p1⟩ := reads_pair ra g1.1 g3.1
            obtain ⟨bs, p2⟩ := reads_pair rb g2.1 g4.1
            have sh : ∀ {u v : V}, Good X s.heap u → Good X s.heap v → SeqAt.shaped (dat (.pair u v)) = true := fun {u v} g g' => shaped_of (by simp [dat, PyData.canLay0, PyData.canLayAll0, g.2.1, g'.2.1]) (by have := g.2.2; have := g'.2.2; simp only [dat, PyData.depth, PyData.depthAll]; omega)
            exact ⟨as, bs, p1, p2, sh g1 g3, sh g2 g4, by rw [Bool.eq_iff_iff]; simp only [dat, PyData.eqv, PyData.eqvAll, Bool.and_true, Bool.and_eq_true, q1, q2]⟩
          · exact no e
        · exact no e
      · exact no e
    · obtain ⟨g1, g2, q1⟩ := eqF_ok (X := X) (h := s.heap) e
      obtain ⟨as, p1⟩ := g1.1 _ ra
      obtain ⟨bs, p2⟩ := g2.1 _ rb
      exact ⟨as, bs, p1, p2, shaped_of g1.2.1 (Nat.le_trans g1.2.2 (by decide)), shaped_of g2.2.1 (Nat.le_trans g2.2.2 (by decide)), by rw [Bool.eq_iff_iff]; exact q1⟩
  obtain ⟨as, bs, p1, p2, s1, s2, rfl⟩ := key
  exact ⟨fun h => eq_dataH p1 p2 s1 s2 hu h, fun h => ne_dataH p1 p2 s1 s2 hu h⟩

theorem cmpI_ok {op : CmpOp} {i j : Int} {va vb : Value} {k : Bool → Prop} {Q : Value → Shared → Prop} (h : cmpI i j k op) (ra : RInt i va) (rb : RInt j vb) (hQ : ∀ x, k x → Q (.bool x) s) : wpAny (model prog w) A (compareOp op va vb) Q E s := by
  obtain ⟨t, rfl⟩ := ra; obtain ⟨u, rfl⟩ := rb
  cases op with
  | Lt => exact lt_int (hQ _ h)
  | LtE => exact le_int (hQ _ h)
  | Gt => exact gt_int (hQ _ h)
  | GtE => exact ge_int (hQ _ h)
  | _ => exact False.elim h
theorem cmpL_ok {op : CmpOp} {a b : V} {va vb : Value} {k : Bool → Prop} {Q : Value → Shared → Prop} (h : cmpL op (vInts a b) k) (ra : Rep X s.heap a va) (rb : Rep X s.heap b vb) (hQ : ∀ x, k x → Q (.bool x) s) : wpAny (model prog w) A (compareOp op va vb) Q E s := by
  unfold cmpL at h
  split at h
  · rename_i i j e
    obtain ⟨rfl, rfl⟩ := vInts_eq e
    exact cmpI_ok h ra rb hQ
  · exact h.elim
theorem cmpE_ok {x : Option Bool} {k : Bool → Prop} (h : cmpE x k) : ∃ y, x = some y ∧ k y := by
  cases x with
  | none => exact h.elim
  | some y => exact ⟨y, rfl, h⟩
theorem cmpW_ok {op : CmpOp} {a b : V} {va vb : Value} {k : Bool → Prop} {Q : Value → Shared → Prop} (hu : A.units + 64 < cLine)
    (h : cmpW op a b k) (ra : Rep X s.heap a va) (rb : Rep X s.heap b vb) (hQ : ∀ x, k x → Q (.bool x) s) : wpAny (model prog w) A (compareOp op va vb) Q E s := by
  cases op with
  | Eq =>
    obtain ⟨y, e, hk⟩ := cmpE_ok h
    exact (eqV_ok hu e ra rb).1 (hQ _ hk)
  | NotEq =>
    obtain ⟨y, e, hk⟩ := cmpE_ok h
    exact (eqV_ok hu e ra rb).2 (hQ _ hk)
  | _ => exact cmpL_ok h ra rb hQ

/-- what an item of a list is, by its index -/
theorem subscriptTail_list {value slice : Expr} {a : Addr} {vs : List Value} {i : Int} {u : Tok} {x : Value} {Q : Value → Shared → Prop} (hp : plainIx slice = true) (hl : LstAt s.heap a vs) (hi : ixOk vs.length i)
    (hx : vs[ixOf vs.length i]? = some x) (h : Q x s) : wpAny (model prog w) A (subscriptTail value slice (.ref a) (.int i u)) Q E s := by
  have hg : wpAny (model prog w) A (getItem (.ref a) (.int i u)) Q E s := by
    obtain ⟨h1, h2, h3⟩ := hi
    have h4 : vs.length ≤ 1000000 := h3
    unfold ixOf at hx
    by_cases hn : i < 0
    · rw [if_pos hn] at hx
      exact wpAny_getItem_list_neg hl.isList hn (by simpa using h1) (by omega) (by simpa using hx) h
    · rw [if_neg hn] at hx
      exact wpAny_getItem_list hl.isList (by omega) (by omega) (by simpa using hx) h
  exact tail_any hl.isList.typeIs slot_list_getitem.lookup hg (by cases slice <;> first | rfl | exact noT hp)
theorem subscriptTail_tup {value slice : Expr} {a : Addr} {vs : List Value} {i : Int} {u : Tok} {x : Value} {Q : Value → Shared → Prop} (hp : plainIx slice = true) (hl : TupAt s.heap a vs) (h0 : 0 ≤ i) (h1 : i < 2 ^ 63)
    (hx : vs[i.toNat]? = some x) (h : Q x s) : wpAny (model prog w) A (subscriptTail value slice (.ref a) (.int i u)) Q E s := by
  have hj : seqIndex? i vs.toArray.size = some i.toNat := by
    have : i.toNat < vs.length := by
      rcases List.getElem?_eq_some_iff.mp hx with ⟨h, _⟩; exact h
    unfold seqIndex?
    simp [show ¬ i < 0 by omega]
    omega
  refine tail_any hl.isTup.typeIs PyProof.Rows.slot_tuple_getitem.lookup (PyProof.Rows.getItem_tuple hl.isTup (by omega) h1 hj (by simpa using hx) h) (by cases slice <;> first | rfl | exact noT hp)

theorem LR.ix {α : Type} {R : α → Value → Prop} {l : List α} {vs : List Value} {d : α} (r : LR R l vs) {i : Int} (hi : ixOk l.length i) : ∃ v, vs[ixOf vs.length i]? = some v ∧ R (l.getD (ixOf l.length i) d) v := by
  have hlt : ixOf l.length i < l.length := by
    unfold ixOf; obtain ⟨h1, h2, h3⟩ := hi; split <;> omega
  obtain ⟨v, h1, h2⟩ := r.get (List.getElem?_eq_getElem hlt)
  refine ⟨v, by rw [r.length]; exact h1, ?_⟩
  rw [List.getD_eq_getElem?_getD, List.getElem?_eq_getElem hlt]; exact h2

theorem idxW_ok {value slice : Expr} {a b : V} {va vb : Value} {k : V → Prop} {Q : Value → Shared → Prop} (hp : plainIx slice = true)
    (h : idxW a b k) (ra : Rep X s.heap a va) (rb : Rep X s.heap b vb) (hQ : ∀ d v, k d → Rep X s.heap d v → Q v s) : wpAny (model prog w) A (subscriptTail value slice va vb) Q E s := by
  unfold idxW at h
  split at h
  · rename_i i e
    obtain rfl := vInt_eq e
    obtain ⟨u, rfl⟩ := rb
    have lst : ∀ {α : Type} {R : α → Value → Prop} {p : List α} {d : α} {f : α → V}, RLst X s.heap (LR R p) va → (∀ x v, R x v → Rep X s.heap (f x) v) → ixOk p.length i ∧ k (f (p.getD (ixOf p.length i) d)) → wpAny (model prog w) A (subscriptTail value slice va (.int i u)) Q E s := by
      rintro α R p d f ⟨l, vs, rfl, z, hl, r⟩ hf h
      obtain ⟨v, h1, h2⟩ := r.ix (d := d) h.1
      exact subscriptTail_list hp hl (by rw [r.length]; exact h.1) h1 (hQ _ _ h.2 (hf _ _ h2))
    have tup : ∀ {x y : Value} {d d' : V} {t : Addr}, va = .ref t → TupAt s.heap t [x, y] → Rep X s.heap d x → Rep X s.heap d' y → (i = 0 → k d) ∧ (i = 1 → k d') ∧ (i = 0 ∨ i = 1) → wpAny (model prog w) A (subscriptTail value slice va (.int i u)) Q E s := by
      rintro x y d d' t rfl ht r1 r2 ⟨h1, h2, rfl | rfl⟩
      · exact subscriptTail_tup hp ht (by decide) (by decide) rfl (hQ _ _ (h1 rfl) r1)
      · exact subscriptTail_tup hp ht (by decide) (by decide) rfl (hQ _ _ (h2 rfl) r2)
    cases a with
    | rat q =>
      obtain ⟨t, vs, e, z, ht, r⟩ := ra
      obtain ⟨x, y, rfl, r1, r2⟩ := r.two
      exact tup (d := .int _) (d' := .int _) e ht r1 r2 h
    | pair a b =>
      obtain ⟨t, x, y, e, z, ht, r1, r2⟩ := ra
      exact tup e ht r1 r2 h
    | poly p => exact lst (f := .rat) ra (fun _ _ r => r) h
    | ilst p => exact lst (f := .int) ra (fun _ _ r => r) h
    | polys p => exact lst (f := .poly) ra (fun _ _ r => r) h
    | _ => exact False.elim h
  · exact h.elim
end
end Mine

namespace Mine

structure Gl where
  prog : Program
  w : World
  B : Heap
  mg : Str → Option Value
  mb : Str → Option Value

structure Gl.Ok (g : Gl) : Prop where
  hg : g.B.Ns mainGlobals g.mg
  hb : g.B.Ns builtinsNs g.mb
  lim : g.B.NoLimit
  seer : g.B.NoSeer
  tree : (model g.prog g.w).prog.given.tree = none
  r0 : ∃ a t u, g.mg "R0" = some (.ref a) ∧ TupAt g.B a [.int 0 t, .int 1 u]
  r1 : ∃ a t u, g.mg "R1" = some (.ref a) ∧ TupAt g.B a [.int 1 t, .int 1 u]
  range : g.mg "range" = none ∧ g.mb "range" = some (.type "range")
  reversed : g.mg "reversed" = none ∧ g.mb "reversed" = some (.type "reversed")
  enumerate : g.mg "enumerate" = none ∧ g.mb "enumerate" = some (.type "enumerate")

noncomputable def Base (g : Gl) (s : Shared) : Prop := ∀ a o, g.B.get? a = some o → s.heap.get? a = some o

structure Wf (g : Gl) (X : Av) (s : Shared) : Prop where
  ok : X.Ok
  base : Base g s
  zB : ∀ a ∈ X.Z, g.B.get? a = none
  box : ∀ b c, X.bx = some (b, c) → ∃ n t is vs, LstAt s.heap b [.ref c, .int n t] ∧ LstAt s.heap c vs ∧ BoxL is vs
  zin : ∀ a ∈ X.Z, ∃ o, s.heap.get? a = some o

theorem Wf.zs {g : Gl} {X : Av} {s : Shared} (w : Wf g X s) : Zin X s := fun a m => let ⟨_, e⟩ := w.zin a m; Heap.lt_size e
theorem Wf.keep {g : Gl} {X : Av} {s s' : Shared} (w : Wf g X s) (st : Stp X s s') : Wf g X s' where
  ok := w.ok
  base a o e := st.keep a o (fun i => by have := w.zB a (w.ok.mem a i); rw [e] at this; cases this) (w.base a o e)
  zB := w.zB
  box b c e := by
    obtain ⟨n, t, is, vs, h1, h2, h3⟩ := w.box b c e
    exact st.box b c e n t is vs h1 h2 h3
  zin a m := by
    by_cases i : X.inB a
    · obtain ⟨b, c, e, h⟩ := i
      obtain ⟨n, t, is, vs, h1, h2, h3⟩ := w.box b c e
      obtain ⟨n', t', is', vs', ⟨k1, h1'⟩, ⟨k2, h2'⟩, h3'⟩ := st.box b c e n t is vs h1 h2 h3
      rcases h with rfl | rfl
      · exact ⟨_, h1'⟩
      · exact ⟨_, h2'⟩
    · obtain ⟨o, e⟩ := w.zin a m
      exact ⟨o, st.keep a o i e⟩

structure Room (n : Nat) (A : Around) : Prop where
  handled : A.handled = none
  depth : A.depth + n ≤ 600
  units : A.units + 8 * n ≤ 9000
  frames : ∃ l, A.frames = some l

/-- how a value is called: with no look at the program -/
noncomputable def Keeps (g : Gl) (f : Value) : Prop := (∃ id, f = .builtin id) ∨ (∃ T, f = .type T) ∨ (∃ a o fd, f = .ref a ∧ g.B.get? a = some o ∧ o.data = .func fd)

noncomputable abbrev noE : Value → Shared → Prop := fun _ _ => False

noncomputable def Calls (g : Gl) (n : Nat) (f : Value) (S : Spec) : Prop :=
  ∀ (A : Around) (X : Av) (s : Shared) (ws : List Value) (vs : List V) (k : V → Prop) (Q : Value → Shared → Prop), Room n A → Wf g X s → S vs k → LR (Rep X s.heap) vs ws →
    (∀ d v s', k d → Stp X s s' → Rep X s'.heap d v → Q v s') → wpAny (model g.prog g.w) A (call f ws) Q noE s

noncomputable def GoodS (g : Gl) (n : Nat) (f : Str) (S : Spec) : Prop :=
  ∃ fv, (g.mg f = some fv ∨ (g.mg f = none ∧ g.mb f = some fv)) ∧ Keeps g fv ∧ Calls g n fv S

noncomputable def TabOk (g : Gl) (n : Nat) (T : Tab) : Prop := ∀ f S, T f = some S → GoodS g n f S

/-- a frame -/
structure Rt where
  g : Gl
  n : Nat
  env : Env
  A : Around
  X0 : Av
  K : Addr → Obj → Prop
  G : V → Value → Prop
  s0 : Shared

structure Rt.Ok (t : Rt) (ks : List (Str × NameKind)) : Prop where
  g : t.g.Ok
  kind : t.env.scope.kind = .function
  globals : t.env.globals = mainGlobals
  builtins : t.env.builtins = builtinsNs
  x0 : t.X0.Ok
  room : Room t.n t.A
  cells : ∀ x, t.env.kindOf x = some .cell → ∃ c, t.env.cells.lookup x = some c
  seer : ∀ h, (∀ a o, t.g.B.get? a = some o → h.get? a = some o) → SeerAt (model t.g.prog t.g.w) t.A h
  dbg : t.env.kindOf ("__debug__" : Str) = none
  cdt : t.env.kindOf ("__classdict__" : Str) = none
  ks : ∀ x, (ks.lookup x = some .globalImplicit → t.env.kindOf x = some .globalImplicit) ∧ (ks.lookup x = some .local → t.env.kindOf x = some .local) ∧ (ks.lookup x = some .cell → t.env.kindOf x = some .cell)

noncomputable def Held (t : Rt) (s : Shared) (m : Str → Option Value) (x : Str) (v : Value) : Prop :=
  (t.env.kindOf x = some .local ∧ m x = some v) ∨ (t.env.kindOf x = some .cell ∧ ∃ c, t.env.cells.lookup x = some c ∧ s.heap.IsCell c (some v))

structure OwnAt (t : Rt) (X : Av) (s : Shared) (m : Str → Option Value) (x : Str) (p : List Rat) (a : Addr) (vs : List Value) : Prop where
  kind : t.env.kindOf x = some .local
  val : m x = some (.ref a)
  inZ : a ∈ X.Z
  out : a ∉ t.X0.Z
  nB : ¬ X.inB a
  at_ : LstAt s.heap a vs
  items : LR (RRat X s.heap) p vs
  K : ∀ o, ¬ t.K a o

structure Core (t : Rt) (X : Av) (s : Shared) : Prop where
  wf : Wf t.g X s
  le : t.X0.Le X
  kept : ∀ a o, t.K a o → s.heap.get? a = some o
  kL : ∀ o, ¬ t.K t.env.locals o
  kC : ∀ x c, t.env.cells.lookup x = some c → ∀ o, ¬ t.K c o
  kB : ∀ a o, t.K a o → ¬ X.inB a
  Lb : ¬ X.inB t.env.locals
  Cb : ∀ x c, t.env.cells.lookup x = some c → ¬ X.inB c ∧ c ≠ t.env.locals ∧ ∃ v, s.heap.IsCell c v
  Ci : ∀ x y c, t.env.cells.lookup x = some c → t.env.cells.lookup y = some c → x = y
  LB : t.g.B.get? t.env.locals = none
  CB : ∀ x c, t.env.cells.lookup x = some c → t.g.B.get? c = none
  gh : ∀ d v, t.G d v → Rep X s.heap d v
  rest : ∃ h' tk, s = { t.s0 with heap := h', toks := tk }

theorem rest_trans {s₁ s₂ s₃ : Shared} (a : ∃ h' tk, s₂ = { s₁ with heap := h', toks := tk }) (b : ∃ h' tk, s₃ = { s₂ with heap := h', toks := tk }) : ∃ h' tk, s₃ = { s₁ with heap := h', toks := tk } := by
  obtain ⟨h, k, rfl⟩ := a
  obtain ⟨h', k', rfl⟩ := b
  exact ⟨_, _, rfl⟩

structure Vars (t : Rt) (X : Av) (σ : Sto) (s : Shared) (m : Str → Option Value) : Prop where
  ns : s.heap.Ns t.env.locals m
  vals : ∀ x d, σ.ρ.lookup x = some d → ∃ v, Held t s m x v ∧ Rep X s.heap d v
  own : ∀ x p, σ.own = some (x, p) → (∃ a vs, OwnAt t X s m x p a vs) ∧ σ.ρ.lookup x = none

structure St (t : Rt) (X : Av) (σ : Sto) (s : Shared) : Prop where
  core : Core t X s
  vars : ∃ m, Vars t X σ s m

theorem St.wf {t : Rt} {X : Av} {σ : Sto} {s : Shared} (h : St t X σ s) : Wf t.g X s := h.core.wf

theorem IsCell.keep {X : Av} {s s' : Shared} (st : Stp X s s') {c v} (n : ¬ X.inB c) (h : s.heap.IsCell c v) : s'.heap.IsCell c v := by
  obtain ⟨o, e, r⟩ := h
  exact ⟨o, st.keep _ _ n e, r⟩

theorem Core.keep {t : Rt} {X : Av} {s s' : Shared} (h : Core t X s) (st : Stp X s s') : Core t X s' where
  wf := h.wf.keep st
  le := h.le
  kept a o k := st.keep _ _ (h.kB a o k) (h.kept a o k)
  kL := h.kL
  kC := h.kC
  kB := h.kB
  Lb := h.Lb
  Cb x c e := by
    obtain ⟨a, b, v, i⟩ := h.Cb x c e
    exact ⟨a, b, v, IsCell.keep st a i⟩
  Ci := h.Ci
  LB := h.LB
  CB := h.CB
  gh d v e := (h.gh d v e).keep h.wf.ok st
  rest := rest_trans h.rest st.rest

theorem St.keep {t : Rt} {X : Av} {σ : Sto} {s s' : Shared} (h : St t X σ s) (st : Stp X s s') : St t X σ s' where
  core := h.core.keep st
  vars := by
    obtain ⟨m, hn, hv, ho⟩ := h.vars
    refine ⟨m, hn.at' fun o e => st.keep _ _ h.core.Lb e, fun x d e => ?_, fun x p e => ?_⟩
    · obtain ⟨v, hh, r⟩ := hv x d e
      refine ⟨v, hh.imp id fun ⟨a, c, b, i⟩ => ⟨a, c, b, IsCell.keep st (h.core.Cb x c b).1 i⟩, r.keep h.wf.ok st⟩
    · obtain ⟨⟨a, vs, q⟩, z⟩ := ho x p e
      exact ⟨⟨a, vs, ⟨q.kind, q.val, q.inZ, q.out, q.nB, q.at_.keep st q.nB, q.items.mono fun _ _ r => r.keep h.wf.ok st, q.K⟩⟩, z⟩

/-- lists and tuples that need not be avoided stay -/
structure Sits (X : Av) (h h' : Heap) : Prop where
  l : ∀ a vs, a ∉ X.Z → LstAt h a vs → LstAt h' a vs
  t : ∀ a vs, a ∉ X.Z → TupAt h a vs → TupAt h' a vs
theorem Mov.sit {X : Av} {h h' : Heap} (st : Sits X h h') : Mov X X h h' := ⟨fun a vs z q => ⟨z, st.t a vs z q⟩, fun a vs z q => ⟨z, st.l a vs z q⟩, rfl⟩
theorem RRat.sit {X : Av} {h h' : Heap} (st : Sits X h h') {q v} (r : RRat X h q v) : RRat X h' q v := r.tr (.sit st)
theorem Rep.sit {X : Av} {h h' : Heap} (st : Sits X h h') {d : V} {v : Value} (r : Rep X h d v) : Rep X h' d v := r.tr (.sit st)

/-- a change at the addresses W alone -/
structure Chg (t : Rt) (X : Av) (W : List Addr) (s s' : Shared) : Prop where
  keep : ∀ a o, a ∉ W → s.heap.get? a = some o → s'.heap.get? a = some o
  rest : ∃ h' tk, s' = { s with heap := h', toks := tk }
  K : ∀ b ∈ W, ∀ o, ¬ t.K b o
  B : ∀ b ∈ W, t.g.B.get? b = none
  nB : ∀ b ∈ W, ¬ X.inB b
  ex : ∀ b ∈ W, b ∈ X.Z → ∃ o, s'.heap.get? b = some o
  sit : ∀ b ∈ W, b ∈ X.Z ∨ ∀ vs, ¬ LstAt s.heap b vs ∧ ¬ TupAt s.heap b vs
  cell : ∀ b ∈ W, ∀ x, t.env.cells.lookup x = some b → ∃ v, s'.heap.IsCell b v

theorem Chg.sits {t : Rt} {X : Av} {W : List Addr} {s s' : Shared} (c : Chg t X W s s') : Sits X s.heap s'.heap where
  l a vs z h := by
    have ne : a ∉ W := fun q => by
      rcases c.sit a q with q | q
      · exact z q
      · exact (q vs).1 h
    obtain ⟨n, e⟩ := h
    exact ⟨n, c.keep _ _ ne e⟩
  t a vs z h := by
    have ne : a ∉ W := fun q => by
      rcases c.sit a q with q | q
      · exact z q
      · exact (q vs).2 h
    obtain ⟨n, e⟩ := h
    exact ⟨n, c.keep _ _ ne e⟩

theorem Core.chg {t : Rt} {X : Av} {W : List Addr} {s s' : Shared} (h : Core t X s) (c : Chg t X W s s') : Core t X s' where
  wf := {
    ok := h.wf.ok
    base := fun a o e => c.keep a o (fun q => by rw [c.B a q] at e; cases e) (h.wf.base a o e)
    zB := h.wf.zB
    box := fun x y e => by
      obtain ⟨n, u, is, vs, ⟨k1, h1⟩, ⟨k2, h2⟩, h3⟩ := h.wf.box x y e
      exact ⟨n, u, is, vs, ⟨k1, c.keep _ _ (fun q => c.nB _ q ⟨x, y, e, .inl rfl⟩) h1⟩, ⟨k2, c.keep _ _ (fun q => c.nB _ q ⟨x, y, e, .inr rfl⟩) h2⟩, h3⟩
    zin := fun a m => by
      by_cases q : a ∈ W
      · exact c.ex a q m
      · obtain ⟨o, e⟩ := h.wf.zin a m
        exact ⟨o, c.keep _ _ q e⟩ }
  le := h.le
  kept a o k := c.keep _ _ (fun q => c.K _ q _ k) (h.kept a o k)
  kL := h.kL
  kC := h.kC
  kB := h.kB
  Lb := h.Lb
  Cb x y e := by
    obtain ⟨a, q, v, i⟩ := h.Cb x y e
    refine ⟨a, q, ?_⟩
    by_cases z : y ∈ W
    · exact c.cell y z x e
    · obtain ⟨o, e', r⟩ := i
      exact ⟨v, o, c.keep _ _ z e', r⟩
  Ci := h.Ci
  LB := h.LB
  CB := h.CB
  gh d v e := (h.gh d v e).sit c.sits
  rest := rest_trans h.rest c.rest

/-- a change that touches neither the frame's names nor its own list -/
theorem Vars.chg {t : Rt} {X : Av} {W : List Addr} {s s' : Shared} {σ : Sto} {m : Str → Option Value} (h : Vars t X σ s m) (c : Chg t X W s s') (hL : t.env.locals ∉ W) (hC : ∀ x b, t.env.cells.lookup x = some b → b ∉ W)
    (hO : ∀ x p a vs, σ.own = some (x, p) → OwnAt t X s m x p a vs → a ∉ W) : Vars t X σ s' m where
  ns := h.ns.at' fun o e => c.keep _ _ hL e
  vals x d e := by
    obtain ⟨v, hh, r⟩ := h.vals x d e
    exact ⟨v, hh.imp id fun ⟨a, cc, b, o, i, j⟩ => ⟨a, cc, b, o, c.keep _ _ (hC x cc b) i, j⟩, r.sit c.sits⟩
  own x p e := by
    obtain ⟨⟨a, vs, w⟩, z⟩ := h.own x p e
    refine ⟨⟨a, vs, ⟨w.kind, w.val, w.inZ, w.out, w.nB, ?_, w.items.mono fun _ _ r => r.sit c.sits, w.K⟩⟩, z⟩
    obtain ⟨n, q⟩ := w.at_
    exact ⟨n, c.keep _ _ (hO x p a vs e w) q⟩
theorem St.chg {t : Rt} {X : Av} {W : List Addr} {s s' : Shared} {σ : Sto} (h : St t X σ s) (c : Chg t X W s s') (hL : t.env.locals ∉ W) (hC : ∀ x b, t.env.cells.lookup x = some b → b ∉ W)
    (hO : ∀ m x p a vs, s.heap.Ns t.env.locals m → σ.own = some (x, p) → OwnAt t X s m x p a vs → a ∉ W) : St t X σ s' :=
  ⟨h.core.chg c, let ⟨m, v⟩ := h.vars; ⟨m, v.chg c hL hC fun x p a vs => hO m x p a vs v.ns⟩⟩
theorem ns_inj {h : Heap} {a : Addr} {m m' : Str → Option Value} (x : h.Ns a m) (y : h.Ns a m') : m = m' := by
  obtain ⟨o, es, ep, h1, h2, _, h3⟩ := x
  obtain ⟨o', es', ep', h1', h2', _, h3'⟩ := y
  rw [h1] at h1'; cases h1'
  rw [h2] at h2'; cases h2'
  funext n; rw [← h3, ← h3']

theorem not_list_of_ns {h : Heap} {L : Addr} {m} (hn : h.Ns L m) (vs : List Value) : ¬ LstAt h L vs ∧ ¬ TupAt h L vs := by
  obtain ⟨o, es, ep, ho, hd, _⟩ := hn
  constructor
  · rintro ⟨n, e⟩; rw [ho] at e; cases e; cases hd
  · rintro ⟨n, e⟩; rw [ho] at e; cases e; cases hd
theorem not_list_of_cell {h : Heap} {c : Addr} {v} (hn : h.IsCell c v) (vs : List Value) : ¬ LstAt h c vs ∧ ¬ TupAt h c vs := by
  obtain ⟨o, ho, hd⟩ := hn
  constructor
  · rintro ⟨n, e⟩; rw [ho] at e; cases e; cases hd
  · rintro ⟨n, e⟩; rw [ho] at e; cases e; cases hd

section
variable {t : Rt} {ks : List (Str × NameKind)} {X : Av} {σ : Sto} {s : Shared} {Q : Value → Shared → Prop}

theorem OwnAt.ne_cell {m x p a vs} (h : OwnAt t X s m x p a vs) {c v} (hc : s.heap.IsCell c v) : a ≠ c := by
  rintro rfl; exact (not_list_of_cell hc vs).1 h.at_
theorem OwnAt.ne_L {m m' x p a vs} (h : OwnAt t X s m x p a vs) (hn : s.heap.Ns t.env.locals m') : a ≠ t.env.locals := by
  rintro rfl; exact (not_list_of_ns hn vs).1 h.at_

/-- a name is stored -/
theorem store_ok (ok : t.Ok ks) (st : St t X σ s) {x : Str} {d : V} {v : Value} {Q : Unit → Shared → Prop} (hx : ks.lookup x = some .local ∨ ks.lookup x = some .cell) (hno : ownIs σ x = none) (r : Rep X s.heap d v)
    (hQ : ∀ s', St t X { σ with ρ := (x, d) :: σ.ρ } s' → (∀ a o, a ≠ t.env.locals → (ks.lookup x = some .local ∨ ∀ y c, t.env.cells.lookup y = some c → a ≠ c) → s.heap.get? a = some o → s'.heap.get? a = some o) → Q () s') :
    wpAny (model t.g.prog t.g.w) t.A (storeName t.env x v) Q noE s := by
  obtain ⟨m, hn, hv, ho⟩ := st.vars
  have own_ne : ∀ y p, σ.own = some (y, p) → y ≠ x := by
    rintro y p e rfl
    simp [ownIs, e] at hno
  rcases hx with hx | hx
  · have hk := (ok.ks x).2.1 hx
    refine wpAny_storeName_local hk hn (fun h' hn' hs => hQ _ ?_ fun a o q _ e => hs.extBut a o q e) (by rw [ok.kind]; rfl)
    have c : Chg t X [t.env.locals] s { s with heap := h', toks := s.toks + 1 } := {
      keep := fun a o q e => hs.extBut a o (by simpa using q) e
      rest := ⟨_, _, rfl⟩
      K := by simpa using st.core.kL
      B := by simpa using st.core.LB
      nB := by simpa using st.core.Lb
      ex := fun b hb _ => by simp only [List.mem_singleton] at hb; subst hb; obtain ⟨o, _, _, e, _⟩ := hn'; exact ⟨o, e⟩
      sit := by simpa using .inr (not_list_of_ns hn)
      cell := fun b hb y e => by simp only [List.mem_singleton] at hb; subst hb; exact ((st.core.Cb y _ e).2.1 rfl).elim }
    refine ⟨st.core.chg c, _, hn', fun y e q => ?_, fun y p q => ?_⟩
    · by_cases hyx : y = x
      · subst hyx
        simp only [List.lookup_cons, beq_self_eq_true] at q
        cases q
        exact ⟨v, .inl ⟨hk, by simp⟩, r.sit c.sits⟩
      · have : (y == x) = false := beq_eq_false_iff_ne.mpr hyx
        simp only [List.lookup_cons, this] at q
        obtain ⟨u, hu, ru⟩ := hv y e q
        refine ⟨u, hu.imp (fun ⟨a, b⟩ => ⟨a, by simp [hyx, b]⟩) fun ⟨a, cc, b, o, i, j⟩ => ⟨a, cc, b, o, c.keep _ _ (by simpa using (st.core.Cb y cc b).2.1) i, j⟩, ru.sit c.sits⟩
    · have hyx := own_ne y p q
      have : (y == x) = false := beq_eq_false_iff_ne.mpr hyx
      obtain ⟨⟨a, vs, w⟩, z⟩ := ho y p q
      refine ⟨⟨a, vs, ⟨w.kind, by simp [hyx, w.val], w.inZ, w.out, w.nB, ?_, w.items.mono fun _ _ r => r.sit c.sits, w.K⟩⟩, by simp [List.lookup_cons, this, z]⟩
      obtain ⟨n, e⟩ := w.at_
      exact ⟨n, c.keep _ _ (by simpa using w.ne_L hn) e⟩
  · have hk := (ok.ks x).2.2 hx
    obtain ⟨cc, hc⟩ := ok.cells x hk
    obtain ⟨c1, c2, v0, c3⟩ := st.core.Cb x cc hc
    refine wpAny_storeName_cell ok.kind hk hc c3 fun h' hi hs => hQ _ ?_ fun a o _ q e => hs.extBut a o (q.elim (fun z => by rw [hx] at z; cases z) fun q => q x cc hc) e
    have c : Chg t X [cc] s { s with heap := h' } := {
      keep := fun a o q e => hs.extBut a o (by simpa using q) e
      rest := ⟨_, s.toks, rfl⟩
      K := by simpa using st.core.kC x cc hc
      B := by simpa using st.core.CB x cc hc
      nB := by simpa using c1
      ex := fun b hb _ => by simp only [List.mem_singleton] at hb; subst hb; obtain ⟨o, e, _⟩ := hi; exact ⟨o, e⟩
      sit := by simpa using .inr (not_list_of_cell c3)
      cell := fun b hb y e => by simp only [List.mem_singleton] at hb; subst hb; exact ⟨_, hi⟩ }
    refine ⟨st.core.chg c, m, hn.sameBut hs (Ne.symm c2), fun y e q => ?_, fun y p q => ?_⟩
    · by_cases hyx : y = x
      · subst hyx
        simp only [List.lookup_cons, beq_self_eq_true] at q
        cases q
        exact ⟨v, .inr ⟨hk, cc, hc, hi⟩, r.sit c.sits⟩
      · have : (y == x) = false := beq_eq_false_iff_ne.mpr hyx
        simp only [List.lookup_cons, this] at q
        obtain ⟨u, hu, ru⟩ := hv y e q
        refine ⟨u, hu.imp id fun ⟨a, c', b, o, i, j⟩ => ⟨a, c', b, o, c.keep _ _ (fun z => by simp only [List.mem_singleton] at z; exact hyx (st.core.Ci y x c' b (z ▸ hc))) i, j⟩, ru.sit c.sits⟩
    · have hyx := own_ne y p q
      have : (y == x) = false := beq_eq_false_iff_ne.mpr hyx
      obtain ⟨⟨a, vs, w⟩, z⟩ := ho y p q
      refine ⟨⟨a, vs, ⟨w.kind, w.val, w.inZ, w.out, w.nB, ?_, w.items.mono fun _ _ r => r.sit c.sits, w.K⟩⟩, by simp [List.lookup_cons, this, z]⟩
      obtain ⟨n, e⟩ := w.at_
      exact ⟨n, c.keep _ _ (by simpa using w.ne_cell c3) e⟩
theorem room_of (ok : t.Ok ks) (h : St t X σ s) : PylongRoom (model t.g.prog t.g.w) t.A s := by
  refine PylongRoom.of (ok.g.lim.keeps h.wf.base) ?_ (ok.seer _ h.wf.base)
  have := ok.room.depth
  have : Builtin.pylongFrames ≤ 100 := by decide
  have : recursionLimit = 1000 := by decide
  omega

theorem ne_dbg (ok : t.Ok ks) {x : Str} {k : NameKind} (h : t.env.kindOf x = some k) : (x == ("__debug__" : Str)) = false := by
  rw [beq_eq_false_iff_ne]; rintro rfl; rw [ok.dbg] at h; cases h

theorem name_held (ok : t.Ok ks) {m : Str → Option Value} (hn : s.heap.Ns t.env.locals m) {x : Str} {pos : Pos} {v : Value} (h : Held t s m x v) (hQ : Q v s) :
    wpAny (model t.g.prog t.g.w) t.A (eval (.Name x pos) t.env) Q noE s := by
  rcases h with ⟨hk, hv⟩ | ⟨hk, c, hc, hv⟩
  · exact wpAny_Name (wpAny_loadName_local ok.kind hk hn hv hQ) (ne_dbg ok hk)
  · exact wpAny_Name (wpAny_loadName_cell ok.kind hk hc hv hQ) (ne_dbg ok hk)

theorem name_global (ok : t.Ok ks) (hb : Base t.g s) {x : Str} {pos : Pos} {v : Value} (hx : ks.lookup x = some .globalImplicit) (hv : t.g.mg x = some v ∨ (t.g.mg x = none ∧ t.g.mb x = some v)) (hQ : Q v s) :
    wpAny (model t.g.prog t.g.w) t.A (eval (.Name x pos) t.env) Q noE s := by
  have hk := (ok.ks x).1 hx
  refine PySem.Calls.Name_function_global ok.kind hk ?_ (ne_dbg ok hk)
  rcases hv with hv | ⟨h1, h2⟩
  · exact PySem.Calls.loadGlobal_global (by rw [ok.globals]; exact ok.g.hg.keeps hb) hv hQ
  · exact PySem.Calls.loadGlobal_builtin (by rw [ok.globals]; exact ok.g.hg.keeps hb) h1 (by rw [ok.builtins]; exact ok.g.hb.keeps hb) h2 hQ

theorem isGlob_iff {c : Cx} {x : Str} (h : isGlob c x = true) : c.ks.lookup x = some .globalImplicit := by
  unfold isGlob at h; split at h
  · assumption
  · cases h
theorem isLoc_iff {c : Cx} {x : Str} (h : isLoc c x = true) : c.ks.lookup x = some .local := by
  unfold isLoc at h; split at h
  · assumption
  · cases h
theorem isCell_iff {c : Cx} {x : Str} (h : isCell c x = true) : c.ks.lookup x = some .cell := by
  unfold isCell at h; split at h
  · assumption
  · cases h

theorem rat0 {h : Heap} {X : Av} {a : Addr} {u v : Tok} (z : a ∉ X.Z) (t : TupAt h a [.int 0 u, .int 1 v]) : RRat X h 0 (.ref a) := ⟨a, _, rfl, z, t, ⟨u, rfl⟩, ⟨v, rfl⟩, trivial⟩
theorem rat1 {h : Heap} {X : Av} {a : Addr} {u v : Tok} (z : a ∉ X.Z) (t : TupAt h a [.int 1 u, .int 1 v]) : RRat X h 1 (.ref a) := ⟨a, _, rfl, z, t, ⟨u, rfl⟩, ⟨v, rfl⟩, trivial⟩

/-- what holds of an expression -/
noncomputable def EvOk (t : Rt) (X : Av) (σ : Sto) (e : Expr) (k : V → Prop) : Prop :=
  ∀ s Q, St t X σ s → (∀ d v s', k d → Stp X s s' → Rep X s'.heap d v → Q v s') → wpAny (model t.g.prog t.g.w) t.A (eval e t.env) Q noE s
noncomputable def TstOk (t : Rt) (X : Av) (σ : Sto) (e : Expr) (k : Bool → Prop) : Prop :=
  ∀ s Q, St t X σ s → (∀ b s', k b → Stp X s s' → Q b s') → wpAny (model t.g.prog t.g.w) t.A (isTrue e t.env (eval e t.env)) Q noE s

theorem nameW_ok {c : Cx} (ok : t.Ok c.ks) {x : Str} {pos : Pos} {k : V → Prop} (h : nameW c σ x k) : EvOk t X σ (.Name x pos) k := by
  intro s Q st hQ
  unfold nameW at h
  split at h
  · rename_i d e
    obtain ⟨m, hn, hv, -⟩ := st.vars
    obtain ⟨v, hh, r⟩ := hv x d e
    exact name_held ok hn hh (hQ _ _ _ h (.refl ..) r)
  · split at h
    · rename_i hg
      split at h
      · rename_i hx
        obtain rfl := eq_of_beq hx
        obtain ⟨a, u, v, e, ta⟩ := ok.g.r0
        exact name_global ok st.wf.base (isGlob_iff hg) (.inl e) (hQ _ _ _ h (.refl ..) (rat0 (fun z => by have := st.wf.zB _ z; obtain ⟨n, ta⟩ := ta; rw [ta] at this; cases this) (let ⟨n, ta⟩ := ta; ⟨n, st.wf.base _ _ ta⟩)))
      · split at h
        · rename_i hx
          obtain rfl := eq_of_beq hx
          obtain ⟨a, u, v, e, ta⟩ := ok.g.r1
          exact name_global ok st.wf.base (isGlob_iff hg) (.inl e) (hQ _ _ _ h (.refl ..) (rat1 (fun z => by have := st.wf.zB _ z; obtain ⟨n, ta⟩ := ta; rw [ta] at this; cases this) (let ⟨n, ta⟩ := ta; ⟨n, st.wf.base _ _ ta⟩)))
        · exact h.elim
    · exact h.elim

noncomputable def NoStar (f : Expr → (V → Prop) → Prop) : Prop := ∀ e p k, ¬ f (.Starred e p) k

theorem starEach_cons {e : Expr} {r : List Expr} {env : Env} (h : ∀ x p, e ≠ .Starred x p) : starEach (e :: r) env = (false, eval e env) :: starEach r env := by
  cases e <;> first | rfl | exact (h _ _ rfl).elim

theorem starEach_c {e : Expr} {r : List Expr} {env : Env} (h : noStar e = true) : starEach (e :: r) env = (false, eval e env) :: starEach r env :=
  starEach_cons (by rintro x p rfl; exact noT h)

theorem evs_ok {f : Expr → (V → Prop) → Prop} (hs : NoStar f) (hf : ∀ e k, f e k → EvOk t X σ e k) (pos : Pos) : ∀ {es : List Expr} {k : List V → Prop}, evs f es k → ∀ s (Q : List Value → Shared → Prop), St t X σ s →
    (∀ ds vs s', k ds → Stp X s s' → LR (Rep X s'.heap) ds vs → Q vs s') → wpAny (model t.g.prog t.g.w) t.A (spliced (backTo pos (starEach es t.env))) Q noE s
  | [], k, h, s, Q, st, hQ => wpAny_items_nil (hQ _ _ _ h (.refl ..) trivial)
  | e :: r, k, h, s, Q, st, hQ => by
    refine wpAny_items_cons (hf e _ h s _ st fun d v s₁ h₁ p₁ r₁ => ?_) (starEach_cons fun x p ex => hs x p _ (ex ▸ h))
    refine evs_ok hs hf pos h₁ s₁ _ (st.keep p₁) fun ds vs s₂ h₂ p₂ r₂ => hQ _ _ _ h₂ (p₁.trans p₂) ⟨r₁.keep st.wf.ok p₂, r₂⟩
theorem Keeps.look {g : Gl} {f : Value} (k : Keeps g f) (M : Model) (h : Heap) (hb : ∀ a o, g.B.get? a = some o → h.get? a = some o) : ∃ q, (q = Keeper.frame ∨ q = Keeper.machine ∨ q = Keeper.boundFrame) ∧ Looks M h (keeperOf f) q := by
  rcases k with ⟨id, rfl⟩ | ⟨T, rfl⟩ | ⟨a, o, fd, rfl, e, d⟩
  · exact ⟨.machine, .inr (.inl rfl), Looks.of_pure rfl⟩
  · exact ⟨.machine, .inr (.inl rfl), Looks.of_pure rfl⟩
  · refine ⟨.frame, .inl rfl, ?_⟩
    refine (Looks.ld (part := none) (hb _ _ e)).andThen ?_
    obtain ⟨cl, dd, dt, sl⟩ := o
    simp only at d; subst d
    exact .now

theorem noStars {es : List Expr} (h : es.all noStar = true) (pos : Pos) (env : Env) : (backTo pos (starEach es env)).any (·.1) = false := by
  induction es with
  | nil => rfl
  | cons e r ih =>
    simp only [List.all_cons, Bool.and_eq_true] at h
    rw [starEach_c h.1]
    exact ih h.2

theorem callW_ok {c : Cx} (ok : t.Ok c.ks) {f : Expr → (V → Prop) → Prop} (hs : NoStar f) (hf : ∀ e k, f e k → EvOk t X σ e k) {fn : Str} {S : Spec} (hg : isGlob c fn = true) (gs : GoodS t.g t.n fn S) {args : List Expr} (hst : args.all noStar = true)
    {k : V → Prop} {p pos : Pos} (h : evs f args fun vs => S vs k) : EvOk t X σ (.Call (.Name fn p) args [] pos) k := by
  intro s Q st hQ
  obtain ⟨fv, hfv, hk, hc⟩ := gs
  refine Call_ (name_global ok st.wf.base (isGlob_iff hg) hfv ?_)
  have key := evs_ok hs hf pos h s (fun vs s' => Base t.g s' ∧ wpAny (model t.g.prog t.g.w) t.A (call fv vs) Q noE s') st fun ds vs s' hS p r =>
    ⟨(st.wf.keep p).base, hc t.A X s' vs ds k Q ok.room (st.wf.keep p) hS r fun d v s₂ hk p₂ r₂ => hQ d v s₂ hk (p.trans p₂) r₂⟩
  refine callWith_of (P := fun h => ∀ a o, t.g.B.get? a = some o → h.get? a = some o) (by rw [noStars hst]; rfl) (fun h hb => hk.look _ h hb) ?_
  cases args with
  | nil =>
    refine evalArgs_nil3 ?_
    exact ⟨st.wf.base, hc t.A X s [] [] k Q ok.room st.wf h trivial hQ⟩
  | cons e r =>
    simp only [List.all_cons, Bool.and_eq_true] at hst
    have e1 : starEach (e :: r) t.env = (false, eval e t.env) :: starEach r t.env := starEach_c hst.1
    rw [e1] at key ⊢
    exact PySem.Calls.evalArgs_plain key
end
end Mine

namespace Mine

noncomputable def withK (t : Rt) (fp : List Addr) (h : Heap) : Rt := { t with K := fun a o => t.K a o ∨ (a ∈ fp ∧ h.get? a = some o) }
noncomputable def withG (t : Rt) (G' : V → Value → Prop) : Rt := { t with G := fun d v => t.G d v ∨ G' d v }

theorem withK_ok {t : Rt} {ks} {fp h} (o : t.Ok ks) : (withK t fp h).Ok ks := ⟨o.g, o.kind, o.globals, o.builtins, o.x0, o.room, o.cells, o.seer, o.dbg, o.cdt, o.ks⟩
theorem withG_ok {t : Rt} {ks} {G} (o : t.Ok ks) : (withG t G).Ok ks := ⟨o.g, o.kind, o.globals, o.builtins, o.x0, o.room, o.cells, o.seer, o.dbg, o.cdt, o.ks⟩

/-- what is walked lies apart from the frame -/
structure Apart (t : Rt) (X : Av) (fp : List Addr) (σ : Sto) (s : Shared) : Prop where
  L : t.env.locals ∉ fp
  C : ∀ x c, t.env.cells.lookup x = some c → c ∉ fp
  B : ∀ b ∈ fp, ¬ X.inB b
  O : ∀ m x p a vs, s.heap.Ns t.env.locals m → σ.own = some (x, p) → OwnAt t X s m x p a vs → a ∉ fp

theorem OwnAt.off {t : Rt} {fp h} {X s m x p a vs} (w : OwnAt (withK t fp h) X s m x p a vs) : OwnAt t X s m x p a vs :=
  ⟨w.kind, w.val, w.inZ, w.out, w.nB, w.at_, w.items, fun o k => w.K o (.inl k)⟩

theorem St.on {t : Rt} {X : Av} {σ : Sto} {s : Shared} {fp : List Addr} (h : St t X σ s) (a : Apart t X fp σ s) : St (withK t fp s.heap) X σ s where
  core := {
    wf := h.core.wf
    le := h.core.le
    kept := fun b o k => k.elim (h.core.kept b o) fun q => q.2
    kL := fun o k => k.elim (h.core.kL o) fun q => a.L q.1
    kC := fun x c e o k => k.elim (h.core.kC x c e o) fun q => a.C x c e q.1
    kB := fun b o k => k.elim (h.core.kB b o) fun q => a.B b q.1
    Lb := h.core.Lb
    Cb := h.core.Cb
    Ci := h.core.Ci
    LB := h.core.LB
    CB := h.core.CB
    gh := h.core.gh
    rest := h.core.rest }
  vars := by
    obtain ⟨m, v⟩ := h.vars
    refine ⟨m, v.ns, v.vals, fun x p e => ?_⟩
    obtain ⟨⟨b, vs, w⟩, z⟩ := v.own x p e
    exact ⟨⟨b, vs, w.kind, w.val, w.inZ, w.out, w.nB, w.at_, w.items, fun o k => k.elim (w.K o) fun q => a.O m x p b vs v.ns e w q.1⟩, z⟩

theorem St.off {t : Rt} {X : Av} {σ : Sto} {s : Shared} {fp : List Addr} {h₀ : Heap} (h : St (withK t fp h₀) X σ s) : St t X σ s where
  core := {
    wf := h.core.wf
    le := h.core.le
    kept := fun b o k => h.core.kept b o (.inl k)
    kL := fun o k => h.core.kL o (.inl k)
    kC := fun x c e o k => h.core.kC x c e o (.inl k)
    kB := fun b o k => h.core.kB b o (.inl k)
    Lb := h.core.Lb
    Cb := h.core.Cb
    Ci := h.core.Ci
    LB := h.core.LB
    CB := h.core.CB
    gh := h.core.gh
    rest := h.core.rest }
  vars := by
    obtain ⟨m, v⟩ := h.vars
    refine ⟨m, v.ns, v.vals, fun x p e => ?_⟩
    obtain ⟨⟨b, vs, w⟩, z⟩ := v.own x p e
    exact ⟨⟨b, vs, w.off⟩, z⟩

theorem St.apart {t : Rt} {X : Av} {σ : Sto} {s : Shared} {fp : List Addr} {h₀ : Heap} (h : St (withK t fp h₀) X σ s) (ex : ∀ b ∈ fp, ∃ o, h₀.get? b = some o) : Apart t X fp σ s where
  L m := let ⟨o, e⟩ := ex _ m; h.core.kL o (.inr ⟨m, e⟩)
  C x c e m := let ⟨o, q⟩ := ex _ m; h.core.kC x c e o (.inr ⟨m, q⟩)
  B b m := let ⟨o, q⟩ := ex _ m; h.core.kB b o (.inr ⟨m, q⟩)
  O m x p a vs n e w q := by
    obtain ⟨m', v⟩ := h.vars
    obtain ⟨⟨a', vs', w'⟩, _⟩ := v.own x p e
    obtain ⟨o, z⟩ := ex a q
    obtain rfl : m = m' := ns_inj n v.ns
    have : a = a' := by have := w.val.symm.trans w'.val; cases this; rfl
    subst this
    exact w'.K o (.inr ⟨q, z⟩)

theorem St.gOn {t : Rt} {X : Av} {σ : Sto} {s : Shared} {G : V → Value → Prop} (h : St t X σ s) (hG : ∀ d v, G d v → Rep X s.heap d v) : St (withG t G) X σ s where
  core := {
    wf := h.core.wf
    le := h.core.le
    kept := h.core.kept
    kL := h.core.kL
    kC := h.core.kC
    kB := h.core.kB
    Lb := h.core.Lb
    Cb := h.core.Cb
    Ci := h.core.Ci
    LB := h.core.LB
    CB := h.core.CB
    gh := fun d v k => k.elim (h.core.gh d v) (hG d v)
    rest := h.core.rest }
  vars := by
    obtain ⟨m, v⟩ := h.vars
    refine ⟨m, v.ns, v.vals, fun x p e => ?_⟩
    obtain ⟨⟨b, vs, w⟩, z⟩ := v.own x p e
    exact ⟨⟨b, vs, w.kind, w.val, w.inZ, w.out, w.nB, w.at_, w.items, w.K⟩, z⟩
theorem St.gOff {t : Rt} {X : Av} {σ : Sto} {s : Shared} {G : V → Value → Prop} (h : St (withG t G) X σ s) : St t X σ s where
  core := {
    wf := h.core.wf
    le := h.core.le
    kept := h.core.kept
    kL := h.core.kL
    kC := h.core.kC
    kB := h.core.kB
    Lb := h.core.Lb
    Cb := h.core.Cb
    Ci := h.core.Ci
    LB := h.core.LB
    CB := h.core.CB
    gh := fun d v k => h.core.gh d v (.inl k)
    rest := h.core.rest }
  vars := by
    obtain ⟨m, v⟩ := h.vars
    refine ⟨m, v.ns, v.vals, fun x p e => ?_⟩
    obtain ⟨⟨b, vs, w⟩, z⟩ := v.own x p e
    exact ⟨⟨b, vs, w.kind, w.val, w.inZ, w.out, w.nB, w.at_, w.items, w.K⟩, z⟩

/-- an iterator, and what it hands out -/
structure FpOk (X : Av) (fp wr : List Addr) (s₀ : Shared) : Prop where
  sub : ∀ b ∈ wr, b ∈ fp
  new : ∀ b ∈ wr, s₀.heap.get? b = none
  old : ∀ b ∈ fp, b ∉ wr → b ∉ X.Z ∧ ∃ vs, LstAt s₀.heap b vs ∨ TupAt s₀.heap b vs

inductive Itr (t : Rt) (X : Av) (n : Nat) (get : Nat → V) (I : Addr) (s₀ s : Shared) (fp wr : List Addr) (Sx : Nat → Heap → Prop) (G : V → Value → Prop) : Prop
  | one (P : Nat → Value → Prop) (np : ∀ i a b, get i ≠ .pair a b) (W : Walks t.g.prog t.g.w t.A I fp wr n P Sx)
      (hP : ∀ i v (X' : Av) (s' : Shared), i < n → P i v → (∀ d u, G d u → Rep X' s'.heap d u) → Rep X' s'.heap (get i) v)
  | two (Pt : Nat → Array Value → Prop) (Mid : Nat → Addr → Heap → Prop) (hp : ∀ i, ∃ a b, get i = .pair a b) (W : WalksT t.g.prog t.g.w t.A I fp wr n Pt Sx Mid)
      (hP : ∀ i vals (X' : Av) (s' : Shared), i < n → Pt i vals → (∀ d u, G d u → Rep X' s'.heap d u) → ∃ a b x y, get i = .pair a b ∧ vals = #[x, y] ∧ Rep X' s'.heap a x ∧ Rep X' s'.heap b y)

structure ItrOk (t : Rt) (X : Av) (n : Nat) (get : Nat → V) (I : Addr) (s₀ s : Shared) (fp wr : List Addr) (Sx : Nat → Heap → Prop) (G : V → Value → Prop) : Prop where
  it : Itr t X n get I s₀ s fp wr Sx G
  sz : n ≤ szL
  h0 : Sx 0 s.heap
  ex : ∀ i h, Sx i h → ∀ b ∈ fp, ∃ o, h.get? b = some o
  fp : FpOk X fp wr s₀
  hG : ∀ d v, G d v → Rep X s.heap d v
  step : Stp X s₀ s
  iters : ∀ b ∈ wr, ∀ vs, ¬ LstAt s.heap b vs ∧ ¬ TupAt s.heap b vs

noncomputable def Iterates (t : Rt) (X : Av) (n : Nat) (get : Nat → V) (it : Value) (s₀ s : Shared) : Prop :=
  ∃ I fp wr Sx G, it = .ref I ∧ ItrOk t X n get I s₀ s fp wr Sx G

section
variable {t : Rt} {X : Av} {σ : Sto} {s : Shared}

theorem new_of {X : Av} {s₀ s : Shared} (ok : X.Ok) (z : Zin X s) (st : Stp X s₀ s) : s₀.heap.get? s.heap.objs.size = none := by
  cases e : s₀.heap.get? s.heap.objs.size with
  | none => rfl
  | some o =>
    by_cases i : X.inB s.heap.objs.size
    · exact absurd (z _ (ok.mem _ i)) (Nat.lt_irrefl _)
    · exact absurd (Heap.lt_size (st.keep _ _ i e)) (Nat.lt_irrefl _)

theorem not_list_of_fields {h : Heap} {a : Addr} {o : Obj} {fs : Array Value} (e : h.get? a = some o) (hd : o.data = .fields fs) (vs : List Value) : ¬ LstAt h a vs ∧ ¬ TupAt h a vs := by
  constructor
  · rintro ⟨k, e'⟩; rw [e] at e'; cases e'; cases hd
  · rintro ⟨k, e'⟩; rw [e] at e'; cases e'; cases hd

theorem iter_list {n : Nat} {get : Nat → V} {vs : List Value} {a : Addr} {s₀ : Shared} {Q : Value → Shared → Prop} {E : Value → Shared → Prop} (hh : t.A.handled = none) (ok : X.Ok) (z : Zin X s)
    (st : Stp X s₀ s) (h₀ : LstAt s₀.heap a vs) (hl : LstAt s.heap a vs) (za : a ∉ X.Z) (hn : vs.length = n) (hsz : n ≤ szL) (np : ∀ i a b, get i ≠ .pair a b) (hg : ∀ i v, vs[i]? = some v → Rep X s.heap (get i) v) (hQ : ∀ it s', Iterates t X n get it s₀ s' → Q it s') :
    wpAny (model t.g.prog t.g.w) t.A (pyIter (.ref a)) Q E s := by
  have hb : a < s.heap.objs.size := let ⟨k, e⟩ := hl; Heap.lt_size e
  have p : Stp X s { s with heap := s.heap.push { cls := .type "list_iterator", data := .fields #[.ref a, .int 0 0] } } := Stp.push (tk := s.toks)
  refine wpAny_pyIter_list hl.isList (hQ _ _ ⟨s.heap.objs.size, [s.heap.objs.size, a], [s.heap.objs.size], fun i h => h.IsListIter s.heap.objs.size a i ∧ h.IsList a vs.toArray, fun d v => ∃ i, vs[i]? = some v ∧ d = get i, rfl, ?_⟩)
  refine ⟨.one (fun i v => vs[i]? = some v) np ?_ fun i v X' s' hi hv hG => hG _ _ ⟨i, hv, rfl⟩, hsz, ⟨⟨_, Heap.get?_push_size _ rfl, rfl, rfl⟩, ?_⟩, fun i h hs b hb => ?_, ⟨by simp, ?_, ?_⟩, ?_, st.trans p, ?_⟩
  · have := Walks.list (prog := t.g.prog) (w := t.g.w) (A := t.A) hh s.heap.objs.size a (Nat.ne_of_lt hb) vs.toArray
    simp only [List.size_toArray, hn, List.getElem?_toArray] at this
    exact this
  · obtain ⟨k, e⟩ := hl
    exact ⟨_, Heap.get?_push_of_some _ e, rfl, _, rfl⟩
  · obtain ⟨⟨o, h1, _⟩, ⟨o', h2, _⟩⟩ := hs
    simp only [List.mem_cons, List.not_mem_nil, or_false] at hb
    rcases hb with rfl | rfl
    · exact ⟨_, h1⟩
    · exact ⟨_, h2⟩
  · intro b q
    simp only [List.mem_cons, List.not_mem_nil, or_false] at q
    subst q
    exact new_of ok z st
  · intro b q nq
    simp only [List.mem_cons, List.not_mem_nil, or_false] at q nq
    rcases q with rfl | rfl
    · exact (nq rfl).elim
    · exact ⟨za, vs, .inl h₀⟩
  · rintro d v ⟨i, hi, rfl⟩
    exact (hg i v hi).keep ok p
  · intro b q ws
    simp only [List.mem_cons, List.not_mem_nil, or_false] at q
    subst q
    exact not_list_of_fields (Heap.get?_push_size _ rfl) rfl ws

theorem iter_tuple {n : Nat} {get : Nat → V} {vs : List Value} {a : Addr} {s₀ : Shared} {Q : Value → Shared → Prop} {E : Value → Shared → Prop} (hh : t.A.handled = none) (ok : X.Ok) (z : Zin X s)
    (st : Stp X s₀ s) (h₀ : TupAt s₀.heap a vs) (hl : TupAt s.heap a vs) (za : a ∉ X.Z) (hn : vs.length = n) (hsz : n ≤ szL) (np : ∀ i a b, get i ≠ .pair a b) (hg : ∀ i v, vs[i]? = some v → Rep X s.heap (get i) v) (hQ : ∀ it s', Iterates t X n get it s₀ s' → Q it s') :
    wpAny (model t.g.prog t.g.w) t.A (pyIter (.ref a)) Q E s := by
  have hb : a < s.heap.objs.size := let ⟨k, e⟩ := hl; Heap.lt_size e
  have p : Stp X s { s with heap := s.heap.push { cls := .type "tuple_iterator", data := .fields #[.ref a, .int 0 0] } } := Stp.push (tk := s.toks)
  have ht : ∀ {h : Heap}, TupAt h a vs → h.IsTuple a vs.toArray := fun ⟨k, e⟩ => ⟨_, e, rfl, _, rfl⟩
  refine wpAny_pyIter_tuple (ht hl) (hQ _ _ ⟨s.heap.objs.size, [s.heap.objs.size, a], [s.heap.objs.size], fun i h => h.IsTupleIter s.heap.objs.size a i ∧ h.IsTuple a vs.toArray, fun d v => ∃ i, vs[i]? = some v ∧ d = get i, rfl, ?_⟩)
  refine ⟨.one (fun i v => vs[i]? = some v) np ?_ fun i v X' s' hi hv hG => hG _ _ ⟨i, hv, rfl⟩, hsz, ⟨⟨_, Heap.get?_push_size _ rfl, rfl, rfl⟩, ?_⟩, fun i h hs b hb => ?_, ⟨by simp, ?_, ?_⟩, ?_, st.trans p, ?_⟩
  · have := Walks.tuple (prog := t.g.prog) (w := t.g.w) (A := t.A) hh s.heap.objs.size a (Nat.ne_of_lt hb) vs.toArray
    simp only [List.size_toArray, hn, List.getElem?_toArray] at this
    exact this
  · obtain ⟨k, e⟩ := hl
    exact ⟨_, Heap.get?_push_of_some _ e, rfl, _, rfl⟩
  · obtain ⟨⟨o, h1, _⟩, ⟨o', h2, _⟩⟩ := hs
    simp only [List.mem_cons, List.not_mem_nil, or_false] at hb
    rcases hb with rfl | rfl
    · exact ⟨_, h1⟩
    · exact ⟨_, h2⟩
  · intro b q
    simp only [List.mem_cons, List.not_mem_nil, or_false] at q
    subst q
    exact new_of ok z st
  · intro b q nq
    simp only [List.mem_cons, List.not_mem_nil, or_false] at q nq
    rcases q with rfl | rfl
    · exact (nq rfl).elim
    · exact ⟨za, vs, .inr h₀⟩
  · rintro d v ⟨i, hi, rfl⟩
    exact (hg i v hi).keep ok p
  · intro b q ws
    simp only [List.mem_cons, List.not_mem_nil, or_false] at q
    subst q
    exact not_list_of_fields (Heap.get?_push_size _ rfl) rfl ws

theorem iter_rev {n : Nat} {get : Nat → V} {vs : List Value} {a : Addr} {s₀ : Shared} {Q : Value → Shared → Prop} {E : Value → Shared → Prop} (hh : t.A.handled = none) (ok : X.Ok) (z : Zin X s)
    (st : Stp X s₀ s) (h₀ : LstAt s₀.heap a vs) (hl : LstAt s.heap a vs) (za : a ∉ X.Z) (hn : vs.length = n) (hsz : n ≤ szL) (np : ∀ i a b, get i ≠ .pair a b) (hg : ∀ i v, vs[n - 1 - i]? = some v → Rep X s.heap (get i) v) (hQ : ∀ it s', Iterates t X n get it s₀ s' → Q it s') :
    wpAny (model t.g.prog t.g.w) t.A (call (.type "reversed") [.ref a]) (fun x s' => wpAny (model t.g.prog t.g.w) t.A (pyIter x) Q E s') E s := by
  have hb : a < s.heap.objs.size := let ⟨k, e⟩ := hl; Heap.lt_size e
  have p : Stp X s { s with heap := s.heap.push (revObj a ((vs.toArray.size : Int) - 1)) } := Stp.push (tk := s.toks)
  have W := Walks.listRev (prog := t.g.prog) (w := t.g.w) (A := t.A) hh s.heap.objs.size a (Nat.ne_of_lt hb) vs.toArray
  have h0 : (fun (i : Nat) (h : Heap) => i ≤ vs.toArray.size ∧ h.IsRevIter s.heap.objs.size a ((vs.toArray.size : Int) - 1 - (i : Int)) ∧ h.IsList a vs.toArray) 0 (s.heap.push (revObj a ((vs.toArray.size : Int) - 1))) := by
    refine ⟨Nat.zero_le _, ⟨_, Heap.get?_push_size _ rfl, rfl, by show _ = Data.fields #[.ref a, rawInt ((vs.toArray.size : Int) - 1 - (0 : Int))]; rw [Int.sub_zero]; rfl⟩, ?_⟩
    obtain ⟨k, e⟩ := hl
    exact ⟨_, Heap.get?_push_of_some _ e, rfl, _, rfl⟩
  refine call_reversed_list hl.isList (W.self 0 _ _ _ h0 (hQ _ _ ⟨s.heap.objs.size, [s.heap.objs.size, a], [s.heap.objs.size], fun (i : Nat) (h : Heap) => i ≤ vs.toArray.size ∧ h.IsRevIter s.heap.objs.size a ((vs.toArray.size : Int) - 1 - (i : Int)) ∧ h.IsList a vs.toArray, fun d v => ∃ i, vs[n - 1 - i]? = some v ∧ d = get i, rfl, ?_⟩))
  refine ⟨.one (fun i v => vs[n - 1 - i]? = some v) np ?_ fun i v X' s' hi hv hG => hG _ _ ⟨i, hv, rfl⟩, hsz, h0, fun i h hs b hb => ?_, ⟨by simp, ?_, ?_⟩, ?_, st.trans p, ?_⟩
  · simp only [List.size_toArray, hn, List.getElem?_toArray] at W ⊢
    exact W
  · obtain ⟨_, ⟨o, h1, _⟩, ⟨o', h2, _⟩⟩ := hs
    simp only [List.mem_cons, List.not_mem_nil, or_false] at hb
    rcases hb with rfl | rfl
    · exact ⟨_, h1⟩
    · exact ⟨_, h2⟩
  · intro b q
    simp only [List.mem_cons, List.not_mem_nil, or_false] at q
    subst q
    exact new_of ok z st
  · intro b q nq
    simp only [List.mem_cons, List.not_mem_nil, or_false] at q nq
    rcases q with rfl | rfl
    · exact (nq rfl).elim
    · exact ⟨za, vs, .inl h₀⟩
  · rintro d v ⟨i, hi, rfl⟩
    exact (hg i v hi).keep ok p
  · intro b q ws
    simp only [List.mem_cons, List.not_mem_nil, or_false] at q
    subst q
    exact not_list_of_fields (Heap.get?_push_size _ rfl) rfl ws

theorem iter_enum {n : Nat} {get : Nat → V} {vs : List Value} {a : Addr} {s₀ : Shared} {Q : Value → Shared → Prop} {E : Value → Shared → Prop} (hh : t.A.handled = none) (ok : X.Ok) (z : Zin X s)
    (st : Stp X s₀ s) (h₀ : LstAt s₀.heap a vs) (hl : LstAt s.heap a vs) (za : a ∉ X.Z) (hn : vs.length = n) (hsz : n ≤ szL) (itm : Nat → V) (hget : ∀ i, get i = .pair (.int i) (itm i)) (hg : ∀ i v, vs[i]? = some v → Rep X s.heap (itm i) v)
    (hQ : ∀ it s', Iterates t X n get it s₀ s' → Q it s') :
    wpAny (model t.g.prog t.g.w) t.A (call (.type "enumerate") [.ref a]) (fun x s' => wpAny (model t.g.prog t.g.w) t.A (pyIter x) Q E s') E s := by
  have hb : a < s.heap.objs.size := let ⟨k, e⟩ := hl; Heap.lt_size e
  obtain ⟨k, e⟩ := id hl
  have n1 : s.heap.objs.size + 1 ≠ s.heap.objs.size := Nat.succ_ne_self _
  have W := WalksT.enumerate (prog := t.g.prog) (w := t.g.w) (A := t.A) hh (s.heap.objs.size + 1) s.heap.objs.size a n1 (Nat.ne_of_lt (Nat.lt_succ_of_lt hb)) (Nat.ne_of_lt hb) vs.toArray
  refine call_enumerate_1 e fun h' he hit hsz' hk => ?_
  have p : Stp X s { s with heap := h' } := Stp.ext (tk := s.toks) hk
  have h0 : (fun (i : Nat) (h : Heap) => (∃ old, IsEnum h (s.heap.objs.size + 1) s.heap.objs.size i old) ∧ h.IsListIter s.heap.objs.size a i ∧ h.IsList a vs.toArray) 0 h' :=
    ⟨⟨_, he⟩, hit, ⟨_, hk _ _ e, rfl, _, rfl⟩⟩
  refine W.self 0 _ _ _ h0 (hQ _ _ ⟨s.heap.objs.size + 1, [s.heap.objs.size + 1, s.heap.objs.size, a], [s.heap.objs.size + 1, s.heap.objs.size], fun (i : Nat) (h : Heap) => (∃ old, IsEnum h (s.heap.objs.size + 1) s.heap.objs.size i old) ∧ h.IsListIter s.heap.objs.size a i ∧ h.IsList a vs.toArray,
    fun d v => ∃ i, vs[i]? = some v ∧ d = itm i, rfl, ?_⟩)
  refine ⟨.two (fun i vals => ∃ t x, vs[i]? = some x ∧ vals = #[.int i t, x]) (fun i T h => (∃ x, IsEnumOut h (s.heap.objs.size + 1) s.heap.objs.size ((i : Int) + 1) x T) ∧
      h.IsListIter s.heap.objs.size a (i + 1) ∧ h.IsList a vs.toArray ∧ T ≠ s.heap.objs.size + 1 ∧ T ≠ s.heap.objs.size) (fun i => ⟨_, _, hget i⟩) ?_ fun i vals X' s' hi hv hG => ?_, hsz, h0, fun i h hs b hb => ?_, ⟨?_, ?_, ?_⟩, ?_, st.trans p, ?_⟩
  · simp only [List.size_toArray, hn, List.getElem?_toArray] at W
    exact W
  · obtain ⟨u, x, hx, rfl⟩ := hv
    exact ⟨_, _, _, _, hget i, rfl, ⟨u, rfl⟩, hG _ _ ⟨i, hx, rfl⟩⟩
  · obtain ⟨⟨old, he⟩, ⟨o, h1, _⟩, ⟨o', h2, _⟩⟩ := hs
    simp only [List.mem_cons, List.not_mem_nil, or_false] at hb
    rcases hb with rfl | rfl | rfl
    · exact ⟨_, he⟩
    · exact ⟨_, h1⟩
    · exact ⟨_, h2⟩
  · intro b q; simp only [List.mem_cons, List.not_mem_nil, or_false] at q ⊢; rcases q with rfl | rfl <;> simp
  · intro b q
    simp only [List.mem_cons, List.not_mem_nil, or_false] at q
    rcases q with rfl | rfl
    · cases q : s₀.heap.get? (s.heap.objs.size + 1) with
      | none => rfl
      | some o =>
        by_cases i : X.inB (s.heap.objs.size + 1)
        · exact absurd (z _ (ok.mem _ i)) (Nat.not_lt.mpr (Nat.le_succ _))
        · exact absurd (Heap.lt_size (st.keep _ _ i q)) (Nat.not_lt.mpr (Nat.le_succ _))
    · exact new_of ok z st
  · intro b q nq
    simp only [List.mem_cons, List.not_mem_nil, or_false] at q nq
    rcases q with rfl | rfl | rfl
    · exact (nq (.inl rfl)).elim
    · exact (nq (.inr rfl)).elim
    · exact ⟨za, vs, .inl h₀⟩
  · rintro d v ⟨i, hi, rfl⟩
    exact (hg i v hi).keep ok p
  · intro b q ws
    simp only [List.mem_cons, List.not_mem_nil, or_false] at q
    obtain ⟨o, h1, _, h3⟩ := hit
    rcases q with rfl | rfl
    · exact not_list_of_fields he rfl ws
    · exact not_list_of_fields h1 h3 ws

theorem iter_range_of {n : Nat} {get : Nat → V} {r : Addr} {lo hi : Int} {u v w : Tok} {s₀ : Shared} {Q : Value → Shared → Prop} {E : Value → Shared → Prop} (hh : t.A.handled = none) (ok : X.Ok) (z : Zin X s)
    (st : Stp X s₀ s) (hr : IsRange s.heap r lo hi 1 u v w) (h1 : small lo) (h2 : small hi) (hn : (hi - lo).toNat = n) (hsz : n ≤ szL) (hget : ∀ i, get i = .int (lo + i)) (hQ : ∀ it s', Iterates t X n get it s₀ s' → Q it s') :
    wpAny (model t.g.prog t.g.w) t.A (pyIter (.ref r)) Q E s := by
  unfold small at h1 h2
  have hsz' : Builtin.Range.rangeSize lo hi 1 = (n : Int) := by
    rw [rangeSize_one]; split <;> omega
  have p : Stp X s { s with heap := s.heap.push { cls := .type "range_iterator", data := .fields #[rawInt lo, rawInt (Builtin.Range.rangeSize lo hi 1), rawInt 1] } } := Stp.push (tk := s.toks)
  have W := Walks.range (prog := t.g.prog) (w := t.g.w) (A := t.A) hh s.heap.objs.size lo 1 n
  refine wpAny_pyIter_range hr (small_one (by omega) (by omega) (by omega) (by omega)) (hQ _ _ ⟨s.heap.objs.size, [s.heap.objs.size], [s.heap.objs.size], fun (i : Nat) (h : Heap) => IsRangeIter h s.heap.objs.size (lo + (i : Nat) * 1) ((n : Int) - (i : Nat)) 1, fun _ _ => False, rfl, ⟨.one _ (by intro i a b e; rw [hget] at e; cases e) W fun i x X' s' hi hv hG => ?_, hsz, ?_, fun i h hs b hb => ?_, ⟨by simp, ?_, ?_⟩, by simp, st.trans p, ?_⟩⟩)
  · obtain ⟨tk, rfl⟩ := hv
    rw [hget]
    exact ⟨tk, by simp⟩
  · have e1 : lo + ((0 : Nat) : Int) * 1 = lo := by simp
    have e2 : ((n : Int) - ((0 : Nat) : Int)) = Builtin.Range.rangeSize lo hi 1 := by rw [hsz']; simp
    rw [e1, e2]
    exact Heap.get?_push_size _ rfl
  · simp only [List.mem_singleton] at hb; subst hb; exact ⟨_, hs⟩
  · intro b q
    simp only [List.mem_cons, List.not_mem_nil, or_false] at q
    subst q
    exact new_of ok z st
  · intro b q nq; exact (nq q).elim
  · intro b q ws
    simp only [List.mem_cons, List.not_mem_nil, or_false] at q
    subst q
    exact not_list_of_fields (Heap.get?_push_size _ rfl) rfl ws

theorem St.sits {s' : Shared} (st : St t X σ s) (k : ∀ a o, a ≠ t.env.locals → (∀ y c, t.env.cells.lookup y = some c → a ≠ c) → s.heap.get? a = some o → s'.heap.get? a = some o) : Sits X s.heap s'.heap := by
  obtain ⟨m, v⟩ := st.vars
  have ne : ∀ a vs, (LstAt s.heap a vs ∨ TupAt s.heap a vs) → a ≠ t.env.locals ∧ ∀ y c, t.env.cells.lookup y = some c → a ≠ c := fun a vs h => by
    refine ⟨?_, ?_⟩
    · rintro rfl; exact h.elim (not_list_of_ns v.ns vs).1 (not_list_of_ns v.ns vs).2
    · rintro y c e rfl
      obtain ⟨_, _, w, hw⟩ := st.core.Cb y _ e
      exact h.elim (not_list_of_cell hw vs).1 (not_list_of_cell hw vs).2
  exact ⟨fun a vs _ ⟨n, e⟩ => ⟨n, k a _ (ne a vs (.inl ⟨n, e⟩)).1 (ne a vs (.inl ⟨n, e⟩)).2 e⟩, fun a vs _ ⟨n, e⟩ => ⟨n, k a _ (ne a vs (.inr ⟨n, e⟩)).1 (ne a vs (.inr ⟨n, e⟩)).2 e⟩⟩

structure LI (t : Rt) (X : Av) (fp wr : List Addr) (Sx : Nat → Heap → Prop) (G : V → Value → Prop) (σ : Sto) (i : Nat) (s : Shared) : Prop where
  st : St (withG (withK t fp s.heap) G) X σ s
  sx : Sx i s.heap
  wz : ∀ b ∈ wr, b ∈ X.Z
  wk : ∀ b ∈ wr, ∀ o, ¬ t.K b o

theorem St.gk {t : Rt} {X : Av} {σ : Sto} {s : Shared} {fp : List Addr} {h : Heap} {G : V → Value → Prop} (st : St (withG (withK t fp h) G) X σ s) (ex : ∀ b ∈ fp, ∃ o, h.get? b = some o) : St (withG (withK t fp s.heap) G) X σ s :=
  (st.gOff.off.on (st.gOff.apart ex)).gOn fun d v g => st.core.gh d v (.inr g)

/-- the iterator is moved on: all else stays -/
theorem LI.move {fp wr : List Addr} {Sx : Nat → Heap → Prop} {G : V → Value → Prop} {i j : Nat} {s' : Shared} (L : LI t X fp wr Sx G σ i s) (sub : ∀ b ∈ wr, b ∈ fp) (ex : ∀ i h, Sx i h → ∀ b ∈ fp, ∃ o, h.get? b = some o)
    (iters : Sx j s'.heap) (keep : ∀ a o, a ∉ wr → s.heap.get? a = some o → s'.heap.get? a = some o) (rest : ∃ h' tk, s' = { s with heap := h', toks := tk }) : LI t X fp wr Sx G σ j s' := by
  have p0 := L.st.gOff.off
  have ap := L.st.gOff.apart (ex i _ L.sx)
  have ex' := ex j _ iters
  have c : Chg t X wr s s' := {
    keep := keep
    rest := rest
    K := L.wk
    B := fun b m => p0.wf.zB b (L.wz b m)
    nB := fun b m => ap.B b (sub b m)
    ex := fun b m _ => ex' b (sub b m)
    sit := fun b m => .inl (L.wz b m)
    cell := fun b m x e => (ap.C x b e (sub b m)).elim }
  have hO : ∀ m x p a vs, s.heap.Ns t.env.locals m → σ.own = some (x, p) → OwnAt t X s m x p a vs → a ∉ wr := fun m x p a vs n e w q => ap.O m x p a vs n e w (sub a q)
  have p1 := p0.chg c (fun q => ap.L (sub _ q)) (fun x b e q => ap.C x b e (sub _ q)) hO
  refine ⟨(p1.on ⟨ap.L, ap.C, ap.B, fun m x p a vs n e w q => ?_⟩).gOn fun d v g => (L.st.core.gh d v (.inr g)).sit c.sits, iters, L.wz, L.wk⟩
  obtain ⟨m0, v0⟩ := p0.vars
  obtain ⟨⟨a0, vs0, w0⟩, _⟩ := v0.own x p e
  obtain rfl : m = m0 := ns_inj n (v0.ns.at' fun o e => keep _ _ (fun q => ap.L (sub _ q)) e)
  have : a = a0 := by have := w.val.symm.trans w0.val; cases this; rfl
  subst this
  exact ap.O m x p a vs0 v0.ns e w0 q

theorem isNone_own {x : Str} (h : (ownIs σ x).isNone = true) : ownIs σ x = none := by simpa using h

theorem LI.store {fp wr : List Addr} {Sx : Nat → Heap → Prop} {G : V → Value → Prop} {i : Nat} {ks : List (Str × NameKind)} (ok : t.Ok ks) (ex : ∀ i h, Sx i h → ∀ b ∈ fp, ∃ o, h.get? b = some o)
    (frame : ∀ i h h', Sx i h → (∀ b ∈ fp, ∀ o, h.get? b = some o → h'.get? b = some o) → Sx i h')
    (L : LI t X fp wr Sx G σ i s) {x : Str} {d : V} {v : Value} {Q : Unit → Shared → Prop} (hx : ks.lookup x = some .local ∨ ks.lookup x = some .cell) (hno : ownIs σ x = none) (r : Rep X s.heap d v)
    (hQ : ∀ s', LI t X fp wr Sx G { σ with ρ := (x, d) :: σ.ρ } i s' → (∀ a o, a ≠ t.env.locals → (ks.lookup x = some .local ∨ ∀ y c, t.env.cells.lookup y = some c → a ≠ c) → s.heap.get? a = some o → s'.heap.get? a = some o) → Q () s') :
    wpAny (model t.g.prog t.g.w) t.A (storeName t.env x v) Q noE s :=
  store_ok (t := withG (withK t fp s.heap) G) (withG_ok (withK_ok ok)) L.st hx hno r fun s' st' k =>
    hQ s' ⟨st'.gk (ex _ _ L.sx), frame _ _ _ L.sx fun b m o e => st'.core.kept b o (.inr ⟨m, e⟩), L.wz, L.wk⟩ k

theorem vPair_none {v : V} (h : ∀ a b, v ≠ .pair a b) : vPair v = none := by
  cases e : vPair v with
  | none => rfl
  | some z => exact (h _ _ (vPair_eq (a := z.1) (b := z.2) e)).elim
theorem bindT_one {c : Cx} {tgt : Expr} {v : V} {k : Sto → Prop} (h : bindT c σ tgt v k) (n : vPair v = none) : ∃ x p, tgt = .Name x p ∧ isLoc c x = true ∧ ownIs σ x = none ∧ k { σ with ρ := (x, v) :: σ.ρ } := by
  unfold bindT at h
  rw [n] at h
  split at h
  · rename_i x p e
    have h : bind1 c σ x v k := h
    unfold bind1 at h
    split at h
    · rename_i hc
      simp only [Bool.and_eq_true] at hc
      exact ⟨x, p, vName_eq e, hc.1, isNone_own hc.2, h⟩
    · exact h.elim
  · split at h
    · exact False.elim h
    · exact h.elim
theorem bindT_two {c : Cx} {tgt : Expr} {a b : V} {k : Sto → Prop} (h : bindT c σ tgt (.pair a b) k) : ∃ x px y py kk pt, tgt = .Tuple [.Name x px, .Name y py] kk pt ∧ isLoc c x = true ∧ isLoc c y = true ∧ (!(x == y)) = true ∧ ownIs σ x = none ∧ ownIs σ y = none ∧ k { σ with ρ := (y, b) :: (x, a) :: σ.ρ } := by
  unfold bindT at h
  split at h
  · exact False.elim h
  · split at h
    · rename_i es kk pt e
      replace h : (match vNames es with | some (x, _, y, _) => bind2 c σ x y a b k | none => False) := h
      split at h
      · rename_i x px y py e'
        unfold bind2 at h
        split at h
        · rename_i hc
          simp only [Bool.and_eq_true] at hc
          exact ⟨x, px, y, py, kk, pt, by rw [vTup_eq e, vNames_eq e'], hc.1.1.1.1, hc.1.1.1.2, hc.1.1.2, isNone_own hc.1.2, isNone_own hc.2, h⟩
        · exact h.elim
      · exact h.elim
    · exact h.elim

theorem turn_ok {c : Cx} (ok : t.Ok c.ks) {n : Nat} {get : Nat → V} {I : Addr} {X₀ : Av} {s₀ s₁ : Shared} {fp wr : List Addr} {Sx : Nat → Heap → Prop} {G : V → Value → Prop} (it : ItrOk t X₀ n get I s₀ s₁ fp wr Sx G) {i : Nat} (hi : i < n)
    (L : LI t X fp wr Sx G σ i s) {tgt : Expr} {k : Sto → Prop} (hb : bindT c σ tgt (get i) k) {Q : Option Value → Shared → Prop}
    (hQ : ∀ v s₁, wpAny (model t.g.prog t.g.w) t.A (letOwnedTupleGo tgt (.ref I) v) (fun _ s₂ => wpAny (model t.g.prog t.g.w) t.A (assign tgt t.env v) (fun _ s₃ => ∃ σ', k σ' ∧ LI t X fp wr Sx G σ' (i + 1) s₃ ∧
      ∀ a o, a ≠ t.env.locals → a ∉ wr → s.heap.get? a = some o → s₃.heap.get? a = some o) noE s₂) noE s₁ → Q (some v) s₁) :
    wpAny (model t.g.prog t.g.w) t.A (pyNext (.ref I)) Q noE s := by
  rcases it.it with ⟨P, np, W, hP⟩ | ⟨Pt, Mid, hp, W, hP⟩
  · obtain ⟨x, px, rfl, c1, c2, hb⟩ := bindT_one hb (vPair_none (np i))
    refine W.item i s Q noE hi L.sx fun v h' tk hPv hs hk => hQ _ _ (wpAny_pure ?_)
    have L1 := L.move it.fp.sub it.ex hs hk ⟨_, tk, rfl⟩
    have r := hP i v X { s with heap := h', toks := tk } hi hPv fun d u g => L1.st.core.gh d u (.inr g)
    exact wpAny_assign_Name (L1.store ok it.ex W.frame (.inl (isLoc_iff c1)) c2 r fun s' L2 k2 => ⟨_, hb, L2, fun a o h1 h3 e => k2 a o h1 (.inl (isLoc_iff c1)) (hk a o h3 e)⟩)
  · obtain ⟨a, b, hget⟩ := hp i
    rw [hget] at hb
    obtain ⟨x, px, y, py, kk, pt, rfl, c1, c2, c3, c4, c5, hk'⟩ := bindT_two hb
    refine W.item i s Q noE hi L.sx fun T vals h' tk hPv hT ht hm hk => hQ _ _ ?_
    refine W.go _ _ _ i T _ _ _ hm fun h'' hs hk2 => ?_
    have ht2 : h''.IsTuple T vals := by
      obtain ⟨o, e, r⟩ := ht
      exact ⟨o, hk2 _ _ (W.apart _ _ _ hm) e, r⟩
    have two : vals.size = 2 := by
      obtain ⟨_, _, _, _, _, rfl, _⟩ := hP i vals X s hi hPv fun d u g => L.st.core.gh d u (.inr g)
      rfl
    refine wpAny_assign_Tuple ok.room.handled ht2 (by rw [two]; rfl) rfl fun h3 hx3 => ?_
    have keep3 : ∀ a o, a ∉ wr → s.heap.get? a = some o → h3.get? a = some o := fun a o q e => by
      have e2 := hk2 _ _ q (hk _ _ q e)
      exact hx3 a o (Nat.ne_of_lt (Heap.lt_size e2)) e2
    have L1 : LI t X fp wr Sx G σ (i + 1) { s with heap := h3, toks := tk } := L.move it.fp.sub it.ex (W.frame _ _ _ hs fun b m o e => hx3 b o (Nat.ne_of_lt (Heap.lt_size e)) e) keep3 ⟨_, tk, rfl⟩
    obtain ⟨a', b', vx, vy, hg', rfl, rx, ry⟩ := hP i vals X { s with heap := h3, toks := tk } hi hPv fun d u g => L1.st.core.gh d u (.inr g)
    rw [hget] at hg'
    cases hg'
    show wpAny _ t.A (do holding [vy] (assign (.Name x px) t.env vx); do holding [] (assign (.Name y py) t.env vy); pure ()) _ _ _
    refine wpAny_bind (wpAny_holding (wpAny_assign_Name (L1.store ok it.ex W.frame (.inl (isLoc_iff c1)) c4 rx fun s' L2 k2 => ?_)))
    refine wpAny_bind (wpAny_holding (wpAny_assign_Name (L2.store ok it.ex W.frame (.inl (isLoc_iff c2)) c5 (Rep.sit ?_ ry) fun s'' L3 k3 => wpAny_pure ?_)))
    · exact L1.st.sits fun a o h1 h2 e => k2 a o h1 (.inr h2) e
    · exact ⟨_, hk', L3, fun a o h1 h3 e => k3 a o h1 (.inl (isLoc_iff c2)) (k2 a o h1 (.inl (isLoc_iff c1)) (keep3 a o h3 e))⟩

theorem St.weak {τ : Sto} (h : St t X τ s) (hρ : ∀ x d, σ.ρ.lookup x = some d → τ.ρ.lookup x = some d) (ho : σ.own = none) : St t X σ s :=
  ⟨h.core, let ⟨m, v⟩ := h.vars; ⟨m, v.ns, fun x d e => v.vals x d (hρ x d e), fun x p e => by rw [ho] at e; cases e⟩⟩
theorem LI.weak {fp wr : List Addr} {Sx : Nat → Heap → Prop} {G : V → Value → Prop} {i : Nat} {τ : Sto} (L : LI t X fp wr Sx G τ i s) (hρ : ∀ x d, σ.ρ.lookup x = some d → τ.ρ.lookup x = some d) (ho : σ.own = none) : LI t X fp wr Sx G σ i s :=
  ⟨L.st.weak hρ ho, L.sx, L.wz, L.wk⟩
theorem LI.keep {fp wr : List Addr} {Sx : Nat → Heap → Prop} {G : V → Value → Prop} {i : Nat} {s' : Shared} (ex : ∀ i h, Sx i h → ∀ b ∈ fp, ∃ o, h.get? b = some o)
    (frame : ∀ i h h', Sx i h → (∀ b ∈ fp, ∀ o, h.get? b = some o → h'.get? b = some o) → Sx i h') (L : LI t X fp wr Sx G σ i s) (p : Stp X s s') : LI t X fp wr Sx G σ i s' :=
  ⟨(L.st.keep p).gk (ex _ _ L.sx), frame _ _ _ L.sx fun b m o e => (L.st.keep p).core.kept b o (.inr ⟨m, e⟩), L.wz, L.wk⟩
/-- a change off what is walked, with no list of its own about -/
theorem LI.chg {fp wr : List Addr} {Sx : Nat → Heap → Prop} {G : V → Value → Prop} {i : Nat} {W : List Addr} {s' : Shared} (ex : ∀ i h, Sx i h → ∀ b ∈ fp, ∃ o, h.get? b = some o)
    (frame : ∀ i h h', Sx i h → (∀ b ∈ fp, ∀ o, h.get? b = some o → h'.get? b = some o) → Sx i h') (L : LI t X fp wr Sx G σ i s) (c : Chg t X W s s') (hf : ∀ b ∈ W, b ∉ fp) (hL : t.env.locals ∉ W) (hC : ∀ x b, t.env.cells.lookup x = some b → b ∉ W)
    (ho : σ.own = none) : LI t X fp wr Sx G σ i s' := by
  have fk : ∀ b ∈ fp, ∀ o, s.heap.get? b = some o → s'.heap.get? b = some o := fun b m o e => c.keep b o (fun q => hf b q m) e
  have ap := L.st.gOff.apart (ex i _ L.sx)
  exact ⟨((L.st.gOff.off.chg c hL hC fun m x p a vs _ e => by rw [ho] at e; cases e).on ⟨ap.L, ap.C, ap.B, fun m x p a vs _ e => by rw [ho] at e; cases e⟩).gOn fun d v g => (L.st.core.gh d v (.inr g)).sit c.sits, frame _ _ _ L.sx fk, L.wz, L.wk⟩

theorem ItrOk.frame {n : Nat} {get : Nat → V} {I : Addr} {X₀ : Av} {s₀ s₁ : Shared} {fp wr : List Addr} {Sx : Nat → Heap → Prop} {G : V → Value → Prop} (it : ItrOk t X₀ n get I s₀ s₁ fp wr Sx G) :
    ∀ i h h', Sx i h → (∀ b ∈ fp, ∀ o, h.get? b = some o → h'.get? b = some o) → Sx i h' := by
  rcases it.it with ⟨P, np, W, hP⟩ | ⟨Pt, Mid, hp, W, hP⟩
  · exact W.frame
  · exact W.frame
theorem ItrOk.self {n : Nat} {get : Nat → V} {I : Addr} {X₀ : Av} {s₀ s₁ : Shared} {fp wr : List Addr} {Sx : Nat → Heap → Prop} {G : V → Value → Prop} (it : ItrOk t X₀ n get I s₀ s₁ fp wr Sx G) {i : Nat} {E : Value → Shared → Prop} {Q : Value → Shared → Prop}
    (h : Sx i s.heap) (hQ : Q (.ref I) s) : wpAny (model t.g.prog t.g.w) t.A (pyIter (.ref I)) Q E s := by
  rcases it.it with ⟨P, np, W, hP⟩ | ⟨Pt, Mid, hp, W, hP⟩
  · exact W.self i s Q E h hQ
  · exact W.self i s Q E h hQ
theorem ItrOk.done {n : Nat} {get : Nat → V} {I : Addr} {X₀ : Av} {s₀ s₁ : Shared} {fp wr : List Addr} {Sx : Nat → Heap → Prop} {G : V → Value → Prop} (it : ItrOk t X₀ n get I s₀ s₁ fp wr Sx G) {E : Value → Shared → Prop} {Q : Option Value → Shared → Prop}
    (h : Sx n s.heap) (hQ : ∀ h' tk, (∀ b o, b ∉ wr → s.heap.get? b = some o → h'.get? b = some o) → Q none { s with heap := h', toks := tk }) : wpAny (model t.g.prog t.g.w) t.A (pyNext (.ref I)) Q E s := by
  rcases it.it with ⟨P, np, W, hP⟩ | ⟨Pt, Mid, hp, W, hP⟩
  · exact W.done s Q E h hQ
  · exact W.done s Q E h hQ
end
end Mine

namespace Mine

section
variable {t : Rt} {X : Av} {σ : Sto} {s : Shared}

theorem callG {c : Cx} (ok : t.Ok c.ks) {f : Expr → (V → Prop) → Prop} (hs : NoStar f) (hf : ∀ e k, f e k → EvOk t X σ e k) {fn : Str} {fv : Value} (hg : isGlob c fn = true)
    (hfv : t.g.mg fn = some fv ∨ (t.g.mg fn = none ∧ t.g.mb fn = some fv)) (hk : Keeps t.g fv) {args : List Expr} (hst : args.all noStar = true) {kk : List V → Prop} {p pos : Pos} {Q : Value → Shared → Prop} (h : evs f args kk) (st : St t X σ s)
    (hc : ∀ ds ws s', kk ds → Stp X s s' → LR (Rep X s'.heap) ds ws → wpAny (model t.g.prog t.g.w) t.A (call fv ws) Q noE s') : wpAny (model t.g.prog t.g.w) t.A (eval (.Call (.Name fn p) args [] pos) t.env) Q noE s := by
  refine Call_ (name_global ok st.wf.base (isGlob_iff hg) hfv ?_)
  have key := evs_ok hs hf pos h s (fun vs s' => Base t.g s' ∧ wpAny (model t.g.prog t.g.w) t.A (call fv vs) Q noE s') st fun ds vs s' hS p r => ⟨(st.wf.keep p).base, hc ds vs s' hS p r⟩
  refine callWith_of (P := fun h => ∀ a o, t.g.B.get? a = some o → h.get? a = some o) (by rw [noStars hst]; rfl) (fun h hb => hk.look _ h hb) ?_
  cases args with
  | nil =>
    refine evalArgs_nil3 ?_
    exact ⟨st.wf.base, hc [] [] s h (.refl ..) trivial⟩
  | cons e r =>
    simp only [List.all_cons, Bool.and_eq_true] at hst
    have e1 : starEach (e :: r) t.env = (false, eval e t.env) :: starEach r t.env := starEach_c hst.1
    rw [e1] at key ⊢
    exact PySem.Calls.evalArgs_plain key

theorem noB {X : Av} (ok : X.Ok) {a : Addr} (z : a ∉ X.Z) : ¬ X.inB a := fun h => z (ok.mem a h)

theorem LR.at {α : Type} {R : α → Value → Prop} {l : List α} {vs : List Value} (q : LR R l vs) (d : α) {i : Nat} {v : Value} (hv : vs[i]? = some v) : R (l.getD i d) v := by
  have hlt : i < vs.length := (List.getElem?_eq_some_iff.mp hv).1
  obtain ⟨v', h1, h2⟩ := q.get (List.getElem?_eq_getElem (q.length ▸ hlt))
  rw [hv] at h1; cases h1
  rw [List.getD_eq_getElem?_getD, List.getElem?_eq_getElem (q.length ▸ hlt)]; exact h2

theorem seqW_ok {c : Cx} (ok : t.Ok c.ks) {d : V} {k : Nat → (Nat → V) → Prop} (h : seqW d k) (st : St t X σ s) {v : Value} (r : Rep X s.heap d v) {Q : Value → Shared → Prop}
    (hQ : ∀ n get it s', k n get → Iterates t X n get it s s' → Q it s') : wpAny (model t.g.prog t.g.w) t.A (pyIter v) Q noE s := by
  have hh := ok.room.handled
  have wf := st.wf
  cases d with
  | poly p =>
    obtain ⟨a, vs, rfl, z, t0, q⟩ := r
    exact iter_list (get := fun i => .rat (p.getD i 0)) hh wf.ok wf.zs (.refl ..) t0 t0 z q.length h.1 (by intro _ _ _ e; cases e) (fun i v hv => q.at 0 hv) fun it s' I => hQ _ _ _ _ h.2 I
  | ilst p =>
    obtain ⟨a, vs, rfl, z, t0, q⟩ := r
    exact iter_list (get := fun i => .int (p.getD i 0)) hh wf.ok wf.zs (.refl ..) t0 t0 z q.length h.1 (by intro _ _ _ e; cases e) (fun i v hv => q.at 0 hv) fun it s' I => hQ _ _ _ _ h.2 I
  | polys p =>
    obtain ⟨a, vs, rfl, z, t0, q⟩ := r
    exact iter_list (get := fun i => .poly (p.getD i [])) hh wf.ok wf.zs (.refl ..) t0 t0 z q.length h.1 (by intro _ _ _ e; cases e) (fun i v hv => q.at [] hv) fun it s' I => hQ _ _ _ _ h.2 I
  | rats p =>
    obtain ⟨a, vs, rfl, z, t0, q⟩ := r
    exact iter_tuple (get := fun i => .rat (p.getD i 0)) hh wf.ok wf.zs (.refl ..) t0 t0 z q.length h.1 (by intro _ _ _ e; cases e) (fun i v hv => q.at 0 hv) fun it s' I => hQ _ _ _ _ h.2 I
  | _ => exact False.elim h

noncomputable def ExOk (t : Rt) (X : Av) (σ : Sto) (b : Stmt) (kR : V → Prop) (kN : Sto → Prop) : Prop :=
  ∀ s Q, St t X σ s → (∀ τ X' s', kN τ → X.Le X' → St t X' τ s' → Q .next s') → (∀ d v s', kR d → Core t t.X0 s' → Rep t.X0 s'.heap d v → Q (.ret v) s') → wpAny (model t.g.prog t.g.w) t.A (exec b t.env) Q noE s

noncomputable def FreshOk (t : Rt) (X : Av) (σ : Sto) (e : Expr) (k : V → Prop) : Prop :=
  ∀ s Q, St t X σ s → (∀ d v s₁ s', k d → Stp X s s₁ → Stp X s₁ s' → Rep X s'.heap d v → (∀ a, v = .ref a → s₁.heap.get? a = none) → Q v s') → wpAny (model t.g.prog t.g.w) t.A (eval e t.env) Q noE s

structure Snd (T : Tab) (r : EVs) : Prop where
  star : ∀ c σ, NoStar (r.ev c σ)
  ev : ∀ t c σ e k X, t.Ok c.ks → TabOk t.g t.n T → r.ev c σ e k → EvOk t X σ e k
  fr : ∀ t c σ e k X, t.Ok c.ks → TabOk t.g t.n T → freshE e = true → r.ev c σ e k → FreshOk t X σ e k
  tst : ∀ t c σ e k X, t.Ok c.ks → TabOk t.g t.n T → r.tst c σ e k → TstOk t X σ e k
  ex : ∀ t c σ b kR kN X, t.Ok c.ks → TabOk t.g t.n T → r.ex c σ b kR kN → ExOk t X σ b kR kN

noncomputable def nmOf : Rng → String
  | .range => "range"
  | .rev => "reversed"
  | .enum => "enumerate"
  | .no => ""
theorem rngOf_ok {c : Cx} {f : Str} {args : List Expr} {R : Rng} (h : rngOf c f args = R) (n : R ≠ .no) : isGlob c f = true ∧ args.all noStar = true ∧ f = Str.ofString (nmOf R) := by
  unfold rngOf at h
  split at h
  · rename_i hg
    rw [Bool.and_eq_true] at hg
    refine ⟨hg.1, hg.2, ?_⟩
    split at h
    · rename_i q; rw [← h]; exact eq_of_beq q
    · split at h
      · rename_i q; rw [← h]; exact eq_of_beq q
      · split at h
        · rename_i q; rw [← h]; exact eq_of_beq q
        · exact (n h.symm).elim
  · exact (n h.symm).elim
theorem polyL_eq {l : List V} {p} (h : polyL l = some p) : l = [.poly p] := by
  unfold polyL at h
  cases e : one l with
  | none => rw [e] at h; exact no h
  | some v => rw [e] at h; rw [one_eq e, vPoly_eq h]
theorem rngW_ok {k : Nat → (Nat → V) → Prop} {l : List V} (h : rngW l k) : (∃ n : Int, l = [.int n] ∧ (small n ∧ n ≤ szL) ∧ k n.toNat fun i => .int i) ∨ ∃ a b : Int, l = [.int a, .int b] ∧ (small a ∧ small b ∧ b - a ≤ szL) ∧ k (b - a).toNat fun i => .int (a + i) := by
  unfold rngW at h
  split at h
  · rename_i v e
    split at h
    · rename_i n e'
      exact .inl ⟨n, by rw [one_eq e, vInt_eq e'], h⟩
    · exact h.elim
  · split at h
    · rename_i v w e
      split at h
      · rename_i a b e'
        exact .inr ⟨a, b, by rw [two_eq e, (vInts_eq e').1, (vInts_eq e').2], h⟩
      · exact h.elim
    · exact h.elim

theorem itW_ok {T : Tab} {r : EVs} (S : Snd T r) {c : Cx} (ok : t.Ok c.ks) (hT : TabOk t.g t.n T) {e : Expr} {k : Nat → (Nat → V) → Prop} (h : itW r c σ e k) (st : St t X σ s) {Q : Value → Shared → Prop}
    (hQ : ∀ n get it s₁ s', k n get → Stp X s s₁ → Iterates t X n get it s₁ s' → Q it s') : wpAny (model t.g.prog t.g.w) t.A (eval e t.env) (fun x s₁ => wpAny (model t.g.prog t.g.w) t.A (pyIter x) Q noE s₁) noE s := by
  have hh := ok.room.handled
  have gen : (r.ev c σ e fun v => seqW v k) → wpAny (model t.g.prog t.g.w) t.A (eval e t.env) (fun x s₁ => wpAny (model t.g.prog t.g.w) t.A (pyIter x) Q noE s₁) noE s := fun h =>
    S.ev t c σ e _ X ok hT h s _ st fun d v s₁ h₁ p₁ r₁ => seqW_ok ok h₁ (st.keep p₁) r₁ fun n get it s' hk I => hQ n get it s₁ s' hk p₁ I
  unfold itW at h
  split at h
  · rename_i f p args p' e'
    have ce := vCallN_eq e'
    have go : ∀ {R : Rng} {kk : List V → Prop}, rngOf c f args = R → R ≠ .no → (t.g.mg (Str.ofString (nmOf R)) = none ∧ t.g.mb (Str.ofString (nmOf R)) = some (.type (nmOf R))) → evs (r.ev c σ) args kk →
        (∀ ds ws s', kk ds → Stp X s s' → LR (Rep X s'.heap) ds ws → wpAny (model t.g.prog t.g.w) t.A (call (.type (nmOf R)) ws) (fun x s₁ => wpAny (model t.g.prog t.g.w) t.A (pyIter x) Q noE s₁) noE s') →
        wpAny (model t.g.prog t.g.w) t.A (eval e t.env) (fun x s₁ => wpAny (model t.g.prog t.g.w) t.A (pyIter x) Q noE s₁) noE s := by
      intro R kk hr hn hb hv hc
      obtain ⟨h1, h2, h3⟩ := rngOf_ok hr hn
      rw [ce]
      exact callG ok (S.star c σ) (fun e k h => S.ev t c σ e k X ok hT h) h1 (.inr (h3 ▸ hb)) (.inr (.inl ⟨_, rfl⟩)) h2 hv st hc
    cases hr : rngOf c f args with
    | range =>
      rw [hr] at h
      refine go hr (by intro e; cases e) ok.g.range h fun ds ws s₁ h₁ p₁ r₁ => ?_
      have st₁ := st.keep p₁
      rcases rngW_ok h₁ with ⟨nn, rfl, h₁⟩ | ⟨aa, bb, rfl, h₁⟩
      · obtain ⟨_, rfl, ⟨u, rfl⟩⟩ := r₁.one
        refine call_range_1 ?_
        have p2 : Stp X s₁ { s₁ with heap := s₁.heap.push { cls := .type "range", data := .fields #[.int 0 s₁.toks, .int nn u, .int 1 (s₁.toks + 1)] }, toks := s₁.toks + 1 + 1 } := Stp.push
        have w2 := st₁.wf.keep p2
        exact iter_range_of hh w2.ok w2.zs p2 (IsRange.new ..) (by unfold small; omega) h₁.1.1 (by simp) (by have := h₁.1.2; omega) (by intro i; simp) fun it s' I => hQ _ _ it s₁ s' h₁.2 p₁ I
      · obtain ⟨_, _, rfl, ⟨u, rfl⟩, ⟨u', rfl⟩⟩ := r₁.two
        refine call_range_2 ?_
        have p2 : Stp X s₁ { s₁ with heap := s₁.heap.push { cls := .type "range", data := .fields #[.int aa u, .int bb u', .int 1 s₁.toks] }, toks := s₁.toks + 1 } := Stp.push
        have w2 := st₁.wf.keep p2
        exact iter_range_of hh w2.ok w2.zs p2 (IsRange.new ..) h₁.1.1 h₁.1.2.1 rfl (by have := h₁.1.2.2; omega) (by intro i; rfl) fun it s' I => hQ _ _ it s₁ s' h₁.2 p₁ I
    | rev =>
      rw [hr] at h
      refine go hr (by intro e; cases e) ok.g.reversed h fun ds ws s₁ h₁ p₁ r₁ => ?_
      have st₁ := st.keep p₁
      unfold revW at h₁
      split at h₁
      · rename_i pl e1
        rw [polyL_eq e1] at r₁
        obtain ⟨_, rfl, ⟨a, vs, rfl, z, t0, q⟩⟩ := r₁.one
        exact iter_rev (get := fun i => .rat (pl.getD (pl.length - 1 - i) 0)) hh st₁.wf.ok st₁.wf.zs (.refl ..) t0 t0 z q.length h₁.1 (by intro _ _ _ e; cases e) (fun i v hv => q.at 0 hv) fun it s' I => hQ _ _ it s₁ s' h₁.2 p₁ I
      · exact h₁.elim
    | enum =>
      rw [hr] at h
      refine go hr (by intro e; cases e) ok.g.enumerate h fun ds ws s₁ h₁ p₁ r₁ => ?_
      have st₁ := st.keep p₁
      unfold enuW at h₁
      split at h₁
      · rename_i pl e1
        rw [polyL_eq e1] at r₁
        obtain ⟨_, rfl, ⟨a, vs, rfl, z, t0, q⟩⟩ := r₁.one
        exact iter_enum hh st₁.wf.ok st₁.wf.zs (.refl ..) t0 t0 z q.length h₁.1 (fun i => .rat _) (fun i => rfl) (fun i v hv => q.at 0 hv) fun it s' I => hQ _ _ it s₁ s' h₁.2 p₁ I
      · exact h₁.elim
    | no =>
      rw [hr] at h
      exact gen h
  · exact gen h
end
end Mine

namespace Mine

theorem fold_pure {scope : Scope} {env : Env} : ∀ (l : List (Str × NameKind)) (acc : List (Str × Addr)), (∀ y ∈ l, y.2 = .free → ∃ a, env.cells.lookup y.1 = some a) →
    (∀ n a, acc.lookup n = some a → env.cells.lookup n = some a) →
    ∃ cl, (forIn l acc fun x r => (match x with | (name, kind) => if (kind == NameKind.free) = true then (do let a ← cellOf env name; pure (ForInStep.yield ((name, a) :: r))) else pure (ForInStep.yield r) : Sem (ForInStep (List (Str × Addr))))) = pure cl ∧
      (∀ n a, cl.lookup n = some a → env.cells.lookup n = some a) ∧ (∀ n, (acc.lookup n).isSome → (cl.lookup n).isSome) ∧ ∀ y ∈ l, y.2 = .free → (cl.lookup y.1).isSome
  | [], acc, _, h => ⟨acc, rfl, h, fun _ x => x, by simp⟩
  | (n, k) :: l, acc, hf, h => by
    by_cases hk : k = .free
    · subst hk
      obtain ⟨a, ha⟩ := hf (n, .free) (List.mem_cons_self ..) rfl
      obtain ⟨cl, e, h1, h2, h3⟩ := fold_pure (scope := scope) (env := env) l ((n, a) :: acc) (fun y m => hf y (List.mem_cons_of_mem _ m)) (fun m b hm => by
        simp only [List.lookup_cons] at hm
        split at hm
        · rename_i q; obtain rfl := eq_of_beq q; cases hm; exact ha
        · exact h m b hm)
      refine ⟨cl, ?_, h1, fun m hm => h2 m ?_, fun y hy hk => ?_⟩
      · rw [List.forIn_cons]
        have : cellOf env n = pure a := by unfold cellOf; rw [ha]
        simp only [beq_self_eq_true, if_true, this, pure_bind]
        exact e
      · simp only [List.lookup_cons]; split
        · rfl
        · exact hm
      · rcases List.mem_cons.mp hy with rfl | hy
        · exact h2 n (by simp [List.lookup_cons])
        · exact h3 y hy hk
    · obtain ⟨cl, e, h1, h2, h3⟩ := fold_pure (scope := scope) (env := env) l acc (fun y m => hf y (List.mem_cons_of_mem _ m)) h
      refine ⟨cl, ?_, h1, h2, fun y hy q => ?_⟩
      · rw [List.forIn_cons]
        have : (k == NameKind.free) = false := by simpa using hk
        simp only [this, Bool.false_eq_true, if_false, pure_bind]
        exact e
      · rcases List.mem_cons.mp hy with rfl | hy
        · exact (hk q).elim
        · exact h3 y hy q

theorem closure_ok {scope : Scope} {env : Env} (hf : ∀ y ∈ scope.names, y.2 = .free → ∃ a, env.cells.lookup y.1 = some a) :
    ∃ cl, closureFor scope env = pure cl ∧ (∀ n a, cl.lookup n = some a → env.cells.lookup n = some a) ∧ ∀ y ∈ scope.names, y.2 = .free → (cl.lookup y.1).isSome := by
  obtain ⟨cl, e, h1, _, h3⟩ := fold_pure (scope := scope) (env := env) scope.names [] hf (by simp)
  refine ⟨cl, ?_, h1, h3⟩
  unfold closureFor
  show (forIn scope.names [] _ >>= fun cs => pure cs) = pure cl
  rw [bind_pure]
  exact e

theorem relab_lookup {env : Env} (hk : env.scope.kind = .function) : ∀ {names : List (Str × NameKind)}, (∀ y ∈ names, y.2 = .free → env.kindOf y.1 = some .cell) → ∀ x,
    (names.map fun (n, k) => if (k == NameKind.free && env.scope.kind == .function && env.kindOf n == some .cell) then (n, NameKind.cell) else (n, k)).lookup x = (names.lookup x).map fun k => if k = .free then .cell else k
  | [], _, x => rfl
  | (n, k) :: r, h, x => by
    have ih := relab_lookup hk (names := r) (fun y m => h y (List.mem_cons_of_mem _ m)) x
    by_cases hf : k = .free
    · subst hf
      have e := h (n, .free) (List.mem_cons_self ..) rfl
      simp only [List.map_cons, hk, e, beq_self_eq_true, Bool.and_self, if_true, List.lookup_cons]
      cases hx : x == n with
      | true => simp
      | false => simpa [hk] using ih
    · have : (k == NameKind.free) = false := by simpa using hf
      simp only [List.map_cons, this, Bool.false_and, Bool.false_eq_true, if_false, List.lookup_cons]
      cases hx : x == n with
      | true => simp [hf]
      | false => simpa using ih

section
variable {prog : Program} {w : World} {A : Around} {E : Value → Shared → Prop} {R : Result → Shared → Prop} {s : Shared}
theorem compLoop_any {elt target iter : Expr} {ifs : List Expr} {scope : Scope} {pos : Pos} {it acc : Value} {env : Env} (I : Nat → Shared → Prop)
    (turn : ∀ n s, I n s → wpAny (model prog w) A (pyNext it) (fun r s₁ => match r with
      | none => R (.ok .next) s₁
      | some v => wpAny (model prog w) A (letOwnedTupleGo target it v) (fun _ s₁' => wpAny (model prog w) A (assign target env v) (fun _ s₂ =>
          wpAny (model prog w) A (forIn ifs true fun c r => if r = true then do let ok ← isTrue c env (eval c env); pure (ForInStep.yield ok) else pure (ForInStep.yield r)) (fun ok s₃ =>
            if ok = true then wpAny (model prog w) A (eval elt env) (fun x s₄ =>
              wpAny (model prog w) A (call (.builtin "list.append") [acc, x]) (fun _ s₅ => ∃ m, m < n ∧ I m s₅) noE s₄) noE s₃
            else ∃ m, m < n ∧ I m s₃) noE s₂) noE s₁') noE s₁) noE s)
    (n : Nat) (h : I n s) :
    codeAny (model prog w) A (.compLoop (.ListComp elt [⟨target, iter, ifs, 0⟩] scope pos) 0 it acc env) R s := by
  refine codeAny_loop rfl I (fun n s hI => ?_) n h
  show wpAny _ A ((compTurn (.ListComp elt [⟨target, iter, ifs, 0⟩] scope pos) 0 it acc env).onRaise (fun x => do noteFrame x env; theTreesLotGoes x)) _ _ s
  refine wpAny_noted ?_
  rw [compTurn_list]
  refine wpAny_bind (wpAny_standAt (wpAny_bind (wpAny_mono (turn n s hI) (fun r s₁ h₁ => ?_) fun _ _ h' => h'.elim)))
  cases r with
  | none => exact wpAny_pure h₁
  | some v =>
    refine wpAny_bind (wpAny_mono h₁ (fun _ s₁' h₁' => ?_) fun _ _ h' => h'.elim)
    refine wpAny_bind (wpAny_mono h₁' (fun _ s₂ h₂ => wpAny_bind (wpAny_mono h₂ (fun ok s₃ h₃ => ?_) fun _ _ h' => h'.elim)) fun _ _ h' => h'.elim)
    cases ok with
    | false => exact wpAny_pure ⟨rfl, h₃⟩
    | true =>
      exact wpAny_bind (wpAny_bind (wpAny_mono h₃ (fun x s₄ h₄ => wpAny_bind (wpAny_mono h₄ (fun _ s₅ h₅ => wpAny_pure (wpAny_pure ⟨rfl, h₅⟩)) fun _ _ h' => h'.elim)) fun _ _ h' => h'.elim))
end

theorem compOk_at {c : Cx} {σ : Sto} {scope : Scope} (h : compOk c σ scope = true) : scope.kind = .function ∧ scope.names.lookup ("__debug__" : Str) = none ∧ scope.names.lookup ("__classdict__" : Str) = none ∧
    (∀ y ∈ scope.names, y.2 ≠ .cell) ∧ (∀ y ∈ scope.names, y.2 = .local → scope.names.lookup y.1 = some .local) ∧ (∀ y ∈ scope.names, y.2 = .free → isCell c y.1 = true ∧ (σ.ρ.lookup y.1).isSome = true) := by
  unfold compOk at h
  simp only [Bool.and_eq_true, Option.isNone_iff_eq_none, List.all_eq_true] at h
  obtain ⟨⟨⟨h1, h2⟩, h3⟩, h4⟩ := h
  refine ⟨?_, h2, h3, fun y hy e => ?_, fun y hy e => ?_, fun y hy e => ?_⟩
  · cases hk : scope.kind <;> rw [hk] at h1 <;> first | rfl | cases h1
  · have := h4 y hy; rw [e] at this; cases this
  · have := h4 y hy; rw [e] at this
    dsimp only at this
    split at this
    · assumption
    · cases this
  · have := h4 y hy; rw [e] at this
    simpa using this

theorem lookup_filter {α : Type} (f : Str → Bool) : ∀ (l : List (Str × α)) (x : Str) (d : α), (l.filter fun y => f y.1).lookup x = some d → f x = true ∧ l.lookup x = some d
  | [], x, d, h => by simp at h
  | (y, v) :: l, x, d, h => by
    by_cases hy : f y = true
    · rw [List.filter_cons_of_pos (by exact hy)] at h
      simp only [List.lookup_cons] at h ⊢
      cases q : x == y with
      | true =>
        obtain rfl := eq_of_beq q
        simp only [beq_self_eq_true] at h
        cases h; exact ⟨hy, rfl⟩
      | false =>
        simp only [q] at h
        exact lookup_filter f l x d h
    · rw [List.filter_cons_of_neg (by exact hy)] at h
      obtain ⟨h1, h2⟩ := lookup_filter f l x d h
      refine ⟨h1, ?_⟩
      have : (x == y) = false := beq_eq_false_iff_ne.mpr (by rintro rfl; exact hy h1)
      simp only [List.lookup_cons, this]; exact h2

theorem compSto_at {scope : Scope} {σ : Sto} {x : Str} {d : V} (h : (compSto scope σ).ρ.lookup x = some d) : scope.names.lookup x = some .free ∧ σ.ρ.lookup x = some d := by
  obtain ⟨h1, h2⟩ := lookup_filter (fun x => match scope.names.lookup x with | some .free => true | _ => false) _ _ _ h
  refine ⟨?_, h2⟩
  split at h1
  · assumption
  · cases h1

theorem mem_of_lookup {α : Type} : ∀ {l : List (Str × α)} {x : Str} {d : α}, l.lookup x = some d → (x, d) ∈ l
  | (y, v) :: l, x, d, h => by
    simp only [List.lookup_cons] at h
    split at h
    · rename_i q; obtain rfl := eq_of_beq q; cases h; exact List.mem_cons_self ..
    · exact List.mem_cons_of_mem _ (mem_of_lookup h)

theorem bindT_mk2 {c : Cx} {σ : Sto} {x px y py kk pt a b} {k : Sto → Prop} (h : bind2 c σ x y a b k) : bindT c σ (.Tuple [.Name x px, .Name y py] kk pt) (.pair a b) k := h
/-- what a target's names leave of the store -/
theorem bindT_grows {c : Cx} {σ τ : Sto} {tgt : Expr} {v : V} {k : Sto → Prop} (h : bindT c σ tgt v k) (hd : ∀ x, isLoc c x = true → τ.ρ.lookup x = none) (hσ : ∀ x d, τ.ρ.lookup x = some d → σ.ρ.lookup x = some d) :
    bindT c σ tgt v fun σ' => (k σ' ∧ ∀ x d, τ.ρ.lookup x = some d → σ'.ρ.lookup x = some d) ∧ σ'.own = σ.own := by
  have one : ∀ {x : Str} {d : V} {ρ : Store}, isLoc c x = true → (∀ y e, τ.ρ.lookup y = some e → ρ.lookup y = some e) → ∀ y e, τ.ρ.lookup y = some e → ((x, d) :: ρ).lookup y = some e := by
    intro x d ρ hx h y e hy
    have : (y == x) = false := beq_eq_false_iff_ne.mpr (by rintro rfl; rw [hd _ hx] at hy; cases hy)
    simp only [List.lookup_cons, this]; exact h y e hy
  cases hv : vPair v with
  | none =>
    obtain ⟨x, p, rfl, c1, c2, hk⟩ := bindT_one h hv
    unfold bindT
    rw [hv]
    show bind1 c σ x v _
    unfold bind1
    rw [show (isLoc c x && (ownIs σ x).isNone) = true by rw [c1, c2]; rfl]
    exact ⟨⟨hk, one c1 hσ⟩, rfl⟩
  | some z =>
    obtain rfl := vPair_eq (a := z.1) (b := z.2) hv
    obtain ⟨x, px, y, py, kk, pt, rfl, c1, c2, c3, c4, c5, hk⟩ := bindT_two h
    refine bindT_mk2 ?_
    unfold bind2
    rw [show (isLoc c x && isLoc c y && !(x == y) && (ownIs σ x).isNone && (ownIs σ y).isNone) = true by rw [c1, c2, c3, c4, c5]; rfl]
    exact ⟨⟨hk, one c2 (one c1 hσ)⟩, rfl⟩

section
variable {t : Rt} {X : Av} {σ : Sto} {s : Shared}

theorem tabOk_same {t t' : Rt} {T : Tab} (h : TabOk t.g t.n T) (e1 : t'.g = t.g) (e2 : t'.n = t.n) : TabOk t'.g t'.n T := by rw [e1, e2]; exact h

theorem same_rest {s s₁ : Shared} {hr h9 : Heap} {tkr tk9 : Nat} (e : s = { s₁ with heap := hr, toks := tkr }) : ({ s with heap := h9, toks := tk9 } : Shared) = { s₁ with heap := h9, toks := tk9 } := by subst e; rfl

structure CI (t' : Rt) (X X' : Av) (fp wr : List Addr) (Sx : Nat → Heap → Prop) (G : V → Value → Prop) (σ₀ : Sto) (D : Addr) (s₁ : Shared) (mp : Bool) (el : Nat → V) (i : Nat) (s : Shared) : Prop where
  li : ∃ σh, LI t' X' fp wr Sx G σh i s ∧ (∀ x d, σ₀.ρ.lookup x = some d → σh.ρ.lookup x = some d) ∧ σh.own = none
  acc : ∃ ys, LstAt s.heap D ys ∧ ys.length = (if mp then i else 0) ∧ ∀ j v, ys[j]? = some v → Rep X' s.heap (el j) v
  old : ∀ a o, ¬ X.inB a → s₁.heap.get? a = some o → s.heap.get? a = some o

theorem comp_loop {T : Tab} {r : EVs} (S : Snd T r) {c : Cx} (ok : t.Ok c.ks) (hT : TabOk t.g t.n T) {scope : Scope} (cok : compOk c σ scope = true) {cl : List (Str × Addr)} (hc1 : ∀ n a, cl.lookup n = some a → t.env.cells.lookup n = some a)
    (hc3 : ∀ y ∈ scope.names, y.2 = .free → (cl.lookup y.1).isSome) {s₁ s₂ : Shared} (st₁ : St t X σ s₁) {n : Nat} {get : Nat → V} {I : Addr} {fp wr : List Addr} {Sx : Nat → Heap → Prop} {G : V → Value → Prop} (it : ItrOk t X n get I s₁ s₂ fp wr Sx G)
    {elt tgt iter : Expr} {ifs : List Expr} {pos : Pos} {mp : Bool} {el : Nat → V}
    (hb : (mp = true ∧ ifs = [] ∧ ∀ i, i < n → bindT ⟨scope.names, []⟩ (compSto scope σ) tgt (get i) fun σ' => r.ev ⟨scope.names, []⟩ σ' elt fun v => conv v (el i)) ∨
      (mp = false ∧ ∃ u, ifs = [u] ∧ ∀ i, i < n → bindT ⟨scope.names, []⟩ (compSto scope σ) tgt (get i) fun σ' => r.tst ⟨scope.names, []⟩ σ' u fun b => b = false))
    {RR : Value → Addr → Result → Shared → Prop}
    (hRR : ∀ D C h' tk m' ys, Stp X s₁ { s₁ with heap := h', toks := tk } → LstAt h' D ys → ys.length = (if mp then n else 0) → (∀ j v, ys[j]? = some v → Rep X h' (el j) v) → D ∉ X.Z → h'.Ns C m' → C ≠ D → s₁.heap.get? C = none → ¬ X.inB C →
      RR (.ref D) C (.ok .next) { s₁ with heap := h', toks := tk }) :
    wpAny (model t.g.prog t.g.w) t.A (newList []) (fun acc s₃ => wpAny (model t.g.prog t.g.w) t.A (newFunctionEnv scope t.env.globals cl [] t.env.qual none .none (some t.env)) (fun cenv s₄ =>
      codeAny (model t.g.prog t.g.w) t.A (.compStart (.ListComp elt [⟨tgt, iter, ifs, 0⟩] scope pos) 0 (.ref I) acc { cenv with scope := relabel scope t.env }) (RR acc cenv.locals) s₄) noE s₃) noE s₂ := by
  obtain ⟨k1, k2, k3, k4, k5, k6⟩ := compOk_at cok
  have st₂ := st₁.keep it.step
  refine wpAny_newObj_type (wpAny_newFunctionEnv k4 (by intro y hy; simp at hy) (fun h₁ hns₁ hsb₁ => ?_) k1)
  dsimp only at hns₁ hsb₁ ⊢
  generalize hH2 : s₂.heap.push { cls := Value.type "list", data := Data.seq (List.toArray ([] : List Value)) } = H2 at hns₁ hsb₁ ⊢
  have hC : H2.objs.size = s₂.heap.objs.size + 1 := by rw [← hH2, Heap.size_push]
  generalize hDD : s₂.heap.objs.size = D at hC ⊢
  generalize hCC : H2.objs.size = C at hns₁ hsb₁ hC ⊢
  have hDC : D ≠ C := by rw [hC]; exact Nat.ne_of_lt (Nat.lt_succ_self _)
  have old : ∀ b o, s₂.heap.get? b = some o → h₁.get? b = some o := fun b o e => by
    have hlt := Heap.lt_size e
    rw [hDD] at hlt
    exact hsb₁.extBut b o (by rw [hC]; exact Nat.ne_of_lt (Nat.lt_succ_of_lt hlt)) (Heap.get?_push_of_some _ (by rw [← hH2]; exact Heap.get?_push_of_some _ e))
  have hacc : LstAt h₁ D [] := ⟨_, hsb₁.extBut _ _ hDC (Heap.get?_push_of_some _ (by rw [← hH2, ← hDD]; exact Heap.get?_push_size _ rfl))⟩
  have freshD : ∀ a o, s₂.heap.get? a = some o → a ≠ D ∧ a ≠ C := fun a o e => by
    have hlt := Heap.lt_size e
    rw [hDD] at hlt
    exact ⟨Nat.ne_of_lt hlt, by rw [hC]; exact Nat.ne_of_lt (Nat.lt_succ_of_lt hlt)⟩
  have zlt : ∀ a ∈ X.Z, a ≠ D ∧ a ≠ C := fun a m => let ⟨o, e⟩ := st₂.wf.zin a m; freshD a o e
  have fpx : ∀ b ∈ fp, ∃ o, s₂.heap.get? b = some o := it.ex 0 _ it.h0
  have hDf : D ∉ fp := fun m => let ⟨o, e⟩ := fpx D m; (freshD D o e).1 rfl
  have hCf : C ∉ fp := fun m => let ⟨o, e⟩ := fpx C m; (freshD C o e).2 rfl
  have freshB : ∀ a, (a = D ∨ a = C) → t.g.B.get? a = none := fun a h => by
    cases q : t.g.B.get? a with
    | none => rfl
    | some o => exact (h.elim (fun z => (freshD a o (st₂.wf.base _ _ q)).1 z) fun z => (freshD a o (st₂.wf.base _ _ q)).2 z).elim
  have wrn : ∀ b ∈ wr, t.g.B.get? b = none := fun b m => by
    cases q : t.g.B.get? b with
    | none => rfl
    | some o => have := st₁.wf.base _ _ q; rw [it.fp.new b m] at this; cases this
  have oldwr : ∀ a o, s₁.heap.get? a = some o → a ∉ wr := fun a o e m => by rw [it.fp.new a m] at e; cases e
  have old12 : ∀ a o, ¬ X.inB a → s₁.heap.get? a = some o → s₂.heap.get? a = some o := it.step.keep
  have freshD' : ∀ a o, ¬ X.inB a → s₁.heap.get? a = some o → a ≠ C := fun a o i e => (freshD a o (old12 a o i e)).2
  have freshD'' : ∀ a o, ¬ X.inB a → s₁.heap.get? a = some o → a ≠ D := fun a o i e => (freshD a o (old12 a o i e)).1
  have hfree : ∀ y ∈ scope.names, y.2 = .free → t.env.kindOf y.1 = some .cell := fun y hy e => (ok.ks y.1).2.2 (isCell_iff (k6 y hy e).1)
  have rl : ∀ x, (compEnvC scope cl C t.env).kindOf x = (scope.names.lookup x).map fun k => if k = .free then .cell else k := relab_lookup ok.kind hfree
  generalize hX' : (⟨D :: (wr ++ X.Z), X.bx⟩ : Av) = X'
  have le' : X.Le X' := by subst hX'; exact ⟨fun a m => by simp [m], rfl⟩
  have mX' : ∀ a, a ∈ X'.Z ↔ a = D ∨ a ∈ wr ∨ a ∈ X.Z := by subst hX'; intro a; simp
  have ok0 : X'.Ok := ⟨fun a i => (mX' a).mpr (.inr (.inr (st₁.wf.ok.mem a (by subst hX'; exact i))))⟩
  have iB : ∀ a, X'.inB a ↔ X.inB a := by subst hX'; intro a; rfl
  have up2 : Up X X' s₂.heap := ⟨fun b m => by
    rcases (mX' b).mp m with rfl | m | m
    · refine .inr fun vs => ⟨?_, ?_⟩ <;> rintro ⟨k, e⟩ <;> exact (freshD _ _ e).1 rfl
    · exact .inr (it.iters b m)
    · exact .inl m, le'.bx⟩
  have sit2 : ∀ {h' : Heap}, (∀ b o, s₂.heap.get? b = some o → h'.get? b = some o) → Sits X' s₂.heap h' := fun k => ⟨fun a vs _ ⟨n, e⟩ => ⟨n, k _ _ e⟩, fun a vs _ ⟨n, e⟩ => ⟨n, k _ _ e⟩⟩
  let t' : Rt := { g := t.g, n := t.n, env := compEnvC scope cl C t.env, A := t.A, X0 := X', K := fun _ _ => False, G := fun _ _ => False, s0 := s₁ }
  have ok' : t'.Ok scope.names := {
    g := ok.g, kind := k1, globals := ok.globals, builtins := ok.builtins, x0 := ok0, room := ok.room
    cells := fun x hx => by
      have hx' : (scope.names.lookup x).map (fun k => if k = .free then NameKind.cell else k) = some .cell := (rl x).symm.trans hx
      cases q : scope.names.lookup x with
      | none => rw [q] at hx'; cases hx'
      | some k =>
        rw [q] at hx'
        by_cases hk : k = .free
        · subst hk
          exact Option.isSome_iff_exists.mp (hc3 (x, .free) (mem_of_lookup q) rfl)
        · simp only [Option.map_some, hk, if_false, Option.some.injEq] at hx'
          exact (k4 _ (mem_of_lookup q) hx').elim
    seer := ok.seer
    dbg := by show (compEnvC scope cl C t.env).kindOf _ = none; rw [rl, k2]; rfl
    cdt := by show (compEnvC scope cl C t.env).kindOf _ = none; rw [rl, k3]; rfl
    ks := fun x => ⟨fun h => by show (compEnvC scope cl C t.env).kindOf _ = _; rw [rl, h]; rfl, fun h => by show (compEnvC scope cl C t.env).kindOf _ = _; rw [rl, h]; rfl, fun h => (k4 _ (mem_of_lookup h) rfl).elim⟩ }
  have it' : ItrOk t' X n get I s₁ s₂ fp wr Sx G := ⟨by
    rcases it.it with ⟨P, np, W, hP⟩ | ⟨Pt, Mid, hp, W, hP⟩
    · exact .one P np W hP
    · exact .two Pt Mid hp W hP, it.sz, it.h0, it.ex, it.fp, it.hG, it.step, it.iters⟩
  have hT' : TabOk t'.g t'.n T := hT
  have CI0 : CI t' X X' fp wr Sx G (compSto scope σ) D s₁ mp el 0 { s₂ with heap := h₁, toks := s₂.toks + ([] : List (Str × Value)).length } := by
    have cellx : ∀ x c', cl.lookup x = some c' → ¬ X.inB c' ∧ c' ∉ fp ∧ ∃ v, s₂.heap.IsCell c' v := fun x c' e => by
      obtain ⟨b1, b2, v, b3⟩ := st₂.core.Cb x c' (hc1 x c' e)
      obtain ⟨_, _, v0, b4⟩ := st₁.core.Cb x c' (hc1 x c' e)
      refine ⟨b1, fun m => ?_, v, b3⟩
      by_cases q : c' ∈ wr
      · obtain ⟨o, b5, _⟩ := b4; exact oldwr _ _ b5 q
      · obtain ⟨_, vs, h⟩ := it.fp.old c' m q
        exact h.elim (not_list_of_cell b4 vs).1 (not_list_of_cell b4 vs).2
    have core : Core t' X' { s₂ with heap := h₁, toks := s₂.toks + ([] : List (Str × Value)).length } := {
      wf := {
        ok := ok0
        base := fun a o e => old _ _ (st₂.wf.base a o e)
        zB := fun a m => by
          rcases (mX' a).mp m with rfl | m | m
          · exact freshB _ (.inl rfl)
          · exact wrn a m
          · exact st₂.wf.zB a m
        box := fun b c' e => by
          obtain ⟨n', u, is, vs, ⟨q1, h1⟩, ⟨q2, h2⟩, h3⟩ := st₂.wf.box b c' (le'.bx.trans e)
          exact ⟨n', u, is, vs, ⟨q1, old _ _ h1⟩, ⟨q2, old _ _ h2⟩, h3⟩
        zin := fun a m => by
          rcases (mX' a).mp m with rfl | m | m
          · obtain ⟨q, e⟩ := hacc; exact ⟨_, e⟩
          · obtain ⟨o, e⟩ := fpx a (it.fp.sub a m); exact ⟨o, old _ _ e⟩
          · obtain ⟨o, e⟩ := st₂.wf.zin a m; exact ⟨o, old _ _ e⟩ }
      le := Av.Le.refl _
      kept := fun _ _ k => k.elim
      kL := fun _ k => k
      kC := fun _ _ _ _ k => k
      kB := fun _ _ k => k.elim
      Lb := fun i => (zlt C (st₂.wf.ok.mem C ((iB C).mp i))).2 rfl
      Cb := fun x c' e => by
        obtain ⟨b1, _, v, o, b3, b4⟩ := cellx x c' e
        exact ⟨fun i => b1 ((iB _).mp i), (freshD _ _ b3).2, v, o, old _ _ b3, b4⟩
      Ci := fun x y c' e1 e2 => st₂.core.Ci x y c' (hc1 _ _ e1) (hc1 _ _ e2)
      LB := freshB C (.inr rfl)
      CB := fun x c' e => st₂.core.CB x c' (hc1 _ _ e)
      gh := fun _ _ k => k.elim
      rest := rest_trans it.step.rest ⟨_, _, rfl⟩ }
    have st' : St t' X' (compSto scope σ) { s₂ with heap := h₁, toks := s₂.toks + ([] : List (Str × Value)).length } := by
      have hns' : h₁.Ns C fun _ => none := by simpa using hns₁
      refine ⟨core, fun _ => none, hns', fun x d e => ?_, fun x p e => by cases e⟩
      obtain ⟨e1, e2⟩ := compSto_at e
      obtain ⟨m, v⟩ := st₂.vars
      obtain ⟨u, hu, ru⟩ := v.vals x d e2
      have hk := hfree (x, .free) (mem_of_lookup e1) rfl
      rcases hu with ⟨hl, _⟩ | ⟨_, c', h1, o, h2, h3⟩
      · rw [hk] at hl; cases hl
      · obtain ⟨c'', hc''⟩ := Option.isSome_iff_exists.mp (hc3 (x, .free) (mem_of_lookup e1) rfl)
        have := hc1 _ _ hc''
        rw [h1] at this; cases this
        exact ⟨u, .inr ⟨by show (compEnvC scope cl C t.env).kindOf x = _; rw [rl, e1]; rfl, c', hc'', o, old _ _ h2, h3⟩, (ru.up up2).sit (sit2 old)⟩
    refine ⟨⟨compSto scope σ, ⟨(st'.on ⟨hCf, fun x c' e => (cellx x c' e).2.1, fun b m i => ?_, fun m x p a vs _ e => by cases e⟩).gOn fun d v g => ((it.hG d v g).up up2).sit (sit2 old), it.frame _ _ _ it.h0 fun b _ o e => old b o e, fun b m => (mX' b).mpr (.inr (.inl m)), fun _ _ _ k => k⟩, fun _ _ e => e, rfl⟩, ⟨[], hacc, by simp, by simp⟩, fun a o i e => old _ _ (old12 a o i e)⟩
    have i' := st₁.wf.ok.mem b ((iB b).mp i)
    by_cases q : b ∈ wr
    · obtain ⟨o, e⟩ := st₁.wf.zin b i'; exact oldwr _ _ e q
    · exact (it.fp.old b m q).1 i'
  have loop : ∀ s₃, CI t' X X' fp wr Sx G (compSto scope σ) D s₁ mp el 0 s₃ → codeAny (model t.g.prog t.g.w) t.A (.compLoop (.ListComp elt [⟨tgt, iter, ifs, 0⟩] scope pos) 0 (.ref I) (.ref D) (compEnvC scope cl C t.env)) (RR (.ref D) C) s₃ := by
    intro s₃ h0
    refine compLoop_any (fun k s' => ∃ i, i ≤ n ∧ k = n - i ∧ CI t' X X' fp wr Sx G (compSto scope σ) D s₁ mp el i s') ?_ n ⟨0, Nat.zero_le _, rfl, h0⟩
    rintro k s' ⟨i, hi, rfl, ⟨σh, L, hσh, hown⟩, ⟨ys, hD, hlen, hel⟩, hold⟩
    have Dx : D ∈ X'.Z := (mX' D).mpr (.inl rfl)
    by_cases hin : i < n
    · have weak := L.weak (σ := compSto scope σ) hσh rfl
      have hdom : ∀ x, isLoc ⟨scope.names, []⟩ x = true → (compSto scope σ).ρ.lookup x = none := fun x hx => by
        cases q : (compSto scope σ).ρ.lookup x with
        | none => rfl
        | some d => have := (compSto_at q).1; have h2 := isLoc_iff hx; rw [this] at h2; cases h2
      have hbind : ∃ kk : Sto → Prop, bindT ⟨scope.names, []⟩ (compSto scope σ) tgt (get i) kk ∧ ((mp = true ∧ ifs = [] ∧ ∀ σ', kk σ' → r.ev ⟨scope.names, []⟩ σ' elt fun v => conv v (el i)) ∨
          (mp = false ∧ ∃ u, ifs = [u] ∧ ∀ σ', kk σ' → r.tst ⟨scope.names, []⟩ σ' u fun b => b = false)) := by
        rcases hb with ⟨h1, h2, h3⟩ | ⟨h1, u, h2, h3⟩
        · exact ⟨_, h3 i hin, .inl ⟨h1, h2, fun _ h => h⟩⟩
        · exact ⟨_, h3 i hin, .inr ⟨h1, u, h2, fun _ h => h⟩⟩
      obtain ⟨kk, hbk, hmode⟩ := hbind
      refine turn_ok (t := t') ok' it' hin weak (bindT_grows hbk hdom fun _ _ e => e) fun v s₄ hv => ?_
      refine wpAny_mono hv (fun _ s₅ h₅ => wpAny_mono h₅ (fun _ s₆ h₆ => ?_) fun _ _ e => e) fun _ _ e => e
      obtain ⟨σ', ⟨⟨hkk, hgrow⟩, hown'⟩, L6, off⟩ := h₆
      have hD6 : LstAt s₆.heap D ys := let ⟨q, e⟩ := hD; ⟨q, off D _ hDC (fun m => hDf (it.fp.sub D m)) e⟩
      have hel6 : ∀ j v, ys[j]? = some v → Rep X' s₆.heap (el j) v := fun j v e => by
        have q1 := hel j v e
        refine q1.sit ⟨fun a vs z ⟨q, e⟩ => ⟨q, off a _ ?_ (fun m => z ((mX' a).mpr (.inr (.inl m)))) e⟩, fun a vs z ⟨q, e⟩ => ⟨q, off a _ ?_ (fun m => z ((mX' a).mpr (.inr (.inl m)))) e⟩⟩
        · obtain ⟨m0, v0⟩ := L.st.vars
          rintro rfl; exact (not_list_of_ns v0.ns vs).1 ⟨q, e⟩
        · obtain ⟨m0, v0⟩ := L.st.vars
          rintro rfl; exact (not_list_of_ns v0.ns vs).2 ⟨q, e⟩
      have hold6 : ∀ a o, ¬ X.inB a → s₁.heap.get? a = some o → s₆.heap.get? a = some o := fun a o i' e => off a _ (freshD' a o i' e) (oldwr a o e) (hold a o i' e)
      rcases hmode with ⟨rfl, rfl, hev⟩ | ⟨rfl, u, rfl, hts⟩
      · refine wpAny_tests_nil ?_
        rw [if_pos rfl]
        refine S.ev (withG (withK t' fp s₆.heap) G) ⟨scope.names, []⟩ σ' elt _ X' (withG_ok (withK_ok ok')) hT' (hev σ' hkk) s₆ _ L6.st fun d v s₇ hcv p₇ r₇ => ?_
        have L7 := L6.keep it.ex it.frame p₇
        have nBD : ¬ X'.inB D := fun i' => (zlt D (st₂.wf.ok.mem D ((iB D).mp i'))).1 rfl
        have hD7 : LstAt s₇.heap D ys := hD6.keep p₇ nBD
        refine wpAny_list_append_plain (hsz := by simp only [List.size_toArray]; have := it.sz; have := szL_le; simp only [if_true] at hlen; omega) hD7.plain fun h8 hp8 hs8 => ?_
        have c : Chg t' X' [D] s₇ { s₇ with heap := h8 } := {
          keep := fun a o q e => hs8.extBut a o (by simpa using q) e
          rest := ⟨_, s₇.toks, rfl⟩
          K := fun _ _ _ k => k
          B := by simpa using freshB D (.inl rfl)
          nB := by simpa using nBD
          ex := fun b hb _ => by simp only [List.mem_singleton] at hb; subst hb; obtain ⟨q, e⟩ := hp8; exact ⟨_, e⟩
          sit := by simpa using .inl Dx
          cell := fun b hb x e => by
            simp only [List.mem_singleton] at hb; subst hb
            obtain ⟨_, _, w, hw⟩ := L7.st.core.Cb x b e
            exact ((not_list_of_cell hw ys).1 hD7).elim }
        have L8 : LI t' X' fp wr Sx G σ' (i + 1) { s₇ with heap := h8 } := L7.chg it.ex it.frame c (by simpa using hDf) (fun m => hDC (List.mem_singleton.mp m).symm) (fun x b e => by
          simp only [List.mem_singleton]; rintro rfl
          obtain ⟨_, _, w, hw⟩ := L7.st.core.Cb x _ e
          exact (not_list_of_cell hw ys).1 hD7) (hown'.trans rfl)
        refine ⟨n - (i + 1), by omega, i + 1, hin, rfl, ⟨σ', L8, hgrow, hown'.trans rfl⟩, ⟨ys ++ [v], ?_, by simp only [if_true] at hlen ⊢; simp [hlen], fun j x e => ?_⟩, fun a o i' e => ?_⟩
        · obtain ⟨q, e⟩ := hp8
          exact ⟨q, by rw [e]; simp⟩
        · rcases Nat.lt_trichotomy j ys.length with hj | hj | hj
          · rw [List.getElem?_append_left hj] at e
            exact ((hel6 j x e).keep ok0 p₇).sit c.sits
          · subst hj
            simp only [List.getElem?_concat_length, Option.some.injEq] at e
            subst e
            have := (conv_ok hcv r₇).sit c.sits
            simp only [if_true] at hlen
            rw [hlen]; exact this
          · have : (ys ++ [v])[j]? = none := List.getElem?_eq_none (by simp; omega)
            rw [this] at e; cases e
        · refine c.keep a o ?_ (p₇.keep a o (fun q => i' ((iB a).mp q)) (hold6 a o i' e))
          simp only [List.mem_singleton]; rintro rfl
          exact freshD'' _ o i' e rfl
      · refine wpAny_tests_one (S.tst (withG (withK t' fp s₆.heap) G) ⟨scope.names, []⟩ σ' u _ X' (withG_ok (withK_ok ok')) hT' (hts σ' hkk) s₆ _ L6.st fun b s₇ hb p₇ => ?_)
        subst hb
        simp only [Bool.false_eq_true, if_false]
        have nBD : ¬ X'.inB D := fun i' => (zlt D (st₂.wf.ok.mem D ((iB D).mp i'))).1 rfl
        exact ⟨n - (i + 1), by omega, i + 1, hin, rfl, ⟨σ', L6.keep it.ex it.frame p₇, hgrow, hown'.trans rfl⟩, ⟨ys, hD6.keep p₇ nBD, hlen, fun j x e => (hel6 j x e).keep ok0 p₇⟩, fun a o i' e => p₇.keep a o (fun q => i' ((iB a).mp q)) (hold6 a o i' e)⟩
    · have hin' : i = n := by omega
      subst hin'
      refine it'.done L.sx fun h9 tk9 k9 => ?_
      obtain ⟨hr, tkr, hs'⟩ := L.st.core.rest
      obtain ⟨m0, v0⟩ := L.st.vars
      have e9 : ({ s' with heap := h9, toks := tk9 } : Shared) = { s₁ with heap := h9, toks := tk9 } := same_rest hs'
      rw [e9]
      refine hRR D C h9 tk9 m0 ys ⟨fun a o i' e => k9 a o (oldwr a o e) (hold a o i' e), fun b c' e n' u is vs p1 p2 p3 => ?_, ⟨_, _, rfl⟩⟩ ?_ hlen (fun j v e => ?_) ?_ (v0.ns.at' fun o e => k9 _ o (fun m => hCf (it.fp.sub _ m)) e) (Ne.symm hDC) ?_ ?_
      · obtain ⟨n2, u2, is2, vs2, ⟨q1, h1⟩, ⟨q2, h2⟩, h3⟩ := L.st.core.wf.box b c' (le'.bx.symm.trans e)
        have nb : ∀ a, X.inB a → a ∉ wr := fun a i' m => by
          obtain ⟨o, e⟩ := st₁.wf.zin a (st₁.wf.ok.mem a i'); exact oldwr _ _ e m
        exact ⟨n2, u2, is2, vs2, ⟨q1, k9 _ _ (nb _ ⟨b, c', e, .inl rfl⟩) h1⟩, ⟨q2, k9 _ _ (nb _ ⟨b, c', e, .inr rfl⟩) h2⟩, h3⟩
      · obtain ⟨q, e⟩ := hD; exact ⟨q, k9 _ _ (fun m => hDf (it.fp.sub _ m)) e⟩
      · refine (Rep.le le' ((hel j v e).sit ⟨fun a vs z ⟨q, e⟩ => ⟨q, k9 _ _ (fun m => z ((mX' a).mpr (.inr (.inl m)))) e⟩, fun a vs z ⟨q, e⟩ => ⟨q, k9 _ _ (fun m => z ((mX' a).mpr (.inr (.inl m)))) e⟩⟩))
      · intro m; exact (zlt D m).1 rfl
      · cases q : s₁.heap.get? C with
        | none => rfl
        | some o =>
          by_cases i' : X.inB C
          · exact ((zlt C (st₂.wf.ok.mem C i')).2 rfl).elim
          · exact (freshD' C o i' q rfl).elim
      · intro i'; exact (zlt C (st₂.wf.ok.mem C i')).2 rfl
  exact codeAny_compStart_list (loop _ CI0) (it'.self CI0.li.choose_spec.1.sx (loop _ CI0))
end
end Mine

namespace Mine

theorem LR.of_get {α : Type} {R : α → Value → Prop} {d : α} {l : List α} {vs : List Value} (e : vs.length = l.length) (h : ∀ j v, vs[j]? = some v → R (l.getD j d) v) : LR R l vs := by
  induction l generalizing vs with
  | nil => cases vs with | nil => trivial | cons _ _ => cases e
  | cons a l ih => cases vs with
    | nil => cases e
    | cons v vs => exact ⟨by simpa using h 0 v rfl, ih (by simpa using e) fun j w hw => by simpa using h (j + 1) w (by simpa using hw)⟩

theorem foldSet {e : Expr} (h : noSet e = true) (env : Env) (x : Value) : foldedSetIterable e env x = pure x := by
  cases e <;> first | rfl | exact noT h

section
variable {t : Rt} {X : Av} {σ : Sto} {s : Shared}

/-- a change at a fresh address -/
theorem Stp.at {C : Addr} {h9 h' : Heap} {tk : Nat} (p : Stp X s { s with heap := h9, toks := tk }) (hs : Heap.SameBut C h9 h') (hC : s.heap.get? C = none) (nB : ¬ X.inB C) : Stp X s { s with heap := h', toks := tk } where
  keep a o i e := hs.extBut a o (by rintro rfl; rw [hC] at e; cases e) (p.keep a o i e)
  box b c e n t is vs p1 p2 p3 := by
    obtain ⟨n2, u2, is2, vs2, ⟨q1, h1⟩, ⟨q2, h2⟩, h3⟩ := p.box b c e n t is vs p1 p2 p3
    exact ⟨n2, u2, is2, vs2, ⟨q1, hs.extBut _ _ (fun q => nB (q ▸ ⟨b, c, e, .inl rfl⟩)) h1⟩, ⟨q2, hs.extBut _ _ (fun q => nB (q ▸ ⟨b, c, e, .inr rfl⟩)) h2⟩, h3⟩
  rest := ⟨_, _, rfl⟩

theorem comp_any {T : Tab} {r : EVs} (S : Snd T r) {c : Cx} (ok : t.Ok c.ks) (hT : TabOk t.g t.n T) {elt tgt iter : Expr} {ifs : List Expr} {scope : Scope} {line : Nat} {pos ipos : Pos} {k : V → Prop}
    (h : compW r c σ elt tgt iter ifs scope line k) (st : St t X σ s) {use : Option (Value → Sem Unit)} {Q : Value → Shared → Prop}
    (hQ : ∀ R D C h' tk m', k R → Stp X s { s with heap := h', toks := tk } → Rep X h' R (.ref D) → h'.Ns C m' → C ≠ D → s.heap.get? C = none → ¬ X.inB C → compPost (model t.g.prog t.g.w) t.A noE use Q (.ref D) C (.ok .next) { s with heap := h', toks := tk }) :
    wpAny (model t.g.prog t.g.w) t.A (comprehension (.ListComp elt [⟨tgt, iter, ifs, 0⟩] scope pos) scope t.env ipos (newList []) false (eval iter t.env) use) Q noE s := by
  unfold compW at h
  split at h
  · exact h.elim
  · rename_i hc
    simp only [Bool.and_eq_true] at hc
    obtain ⟨cok, hns⟩ := hc
    obtain ⟨k1, k2, k3, k4, k5, k6⟩ := compOk_at cok
    obtain ⟨cl, hcl, hc1, hc3⟩ := closure_ok (scope := scope) (env := t.env) fun y hy e => ok.cells y.1 ((ok.ks y.1).2.2 (isCell_iff (k6 y hy e).1))
    refine wpAny_comprehension_free rfl (foldSet hns t.env) hcl k1 k5 (itW_ok S ok hT h st fun n get it s₁ s' hk p I => ?_)
    obtain ⟨Ia, fp, wr, Sx, G, rfl, itok⟩ := I
    have st₁ := st.keep p
    have fr : ∀ C, ¬ X.inB C → s₁.heap.get? C = none → s.heap.get? C = none := fun C i e => by
      cases q : s.heap.get? C with
      | none => rfl
      | some o => rw [p.keep C o i q] at e; cases e
    obtain ⟨h1, tk1, rfl⟩ := p.rest
    have fin : ∀ {α : Type} {P : Heap → α → Value → Prop} {l : List α} {d : α} {f : α → V} {R : V}, (∀ h v, RLst X h (LR (P h) l) v → Rep X h R v) → (∀ h a v, Rep X h (f a) v → P h a v) → l.length = n →
        ((true = true ∧ ifs = [] ∧ ∀ i, i < n → bindT ⟨scope.names, []⟩ (compSto scope σ) tgt (get i) fun σ' => r.ev ⟨scope.names, []⟩ σ' elt fun v => conv v (f (l.getD i d))) ∨ (true = false ∧ ∃ u, ifs = [u] ∧ ∀ i, i < n → bindT ⟨scope.names, []⟩ (compSto scope σ) tgt (get i) fun σ' => r.tst ⟨scope.names, []⟩ σ' u fun b => b = false)) → k R → _ := fun {α P l d f R} hR hP hl hb hkR =>
      comp_loop S ok hT cok hc1 hc3 st₁ itok (mp := true) (elt := elt) (iter := iter) (pos := pos) (el := fun i => f (l.getD i d)) hb (RR := fun acc C r s' => compPost (model t.g.prog t.g.w) t.A noE use Q acc C r s')
        fun D C h' tk m' ys p' hD hlen hys hz hn hCD hnC hiC =>
          hQ _ D C h' tk m' hkR (p.trans p') (hR _ _ ⟨D, ys, rfl, hz, hD, LR.of_get (d := d) (by simpa [hl] using hlen) fun j v e => hP _ _ _ (hys j v e)⟩) hn hCD (fr C hiC hnC) hiC
    split at hk
    · split at hk
      · rename_i R hsp
        obtain ⟨hel, hkR⟩ := hk
        cases R with
        | poly l => exact fin (P := RRat X) (l := l) (R := .poly l) (d := 0) (f := .rat) (fun _ _ x => x) (fun _ _ _ x => x) hel.1 (.inl ⟨rfl, rfl, hel.2⟩) hkR
        | ilst l => exact fin (P := fun _ => RInt) (l := l) (R := .ilst l) (d := 0) (f := .int) (fun _ _ x => x) (fun _ _ _ x => x) hel.1 (.inl ⟨rfl, rfl, hel.2⟩) hkR
        | _ => exact False.elim hel
      · exact hk.elim
    · split at hk
      · rename_i u _
        refine comp_loop S ok hT cok hc1 hc3 st₁ itok (mp := false) (el := fun i => .none) (.inr ⟨rfl, u, rfl, hk.1⟩) (RR := fun acc C r s' => compPost (model t.g.prog t.g.w) t.A noE use Q acc C r s')
          fun D C h' tk m' ys p' hD hlen hys hz hn hCD hnC hiC => ?_
        have : ys = [] := by simpa using hlen
        subst this
        exact hQ _ D C h' tk m' hk.2 (p.trans p') ⟨D, [], rfl, hz, hD, trivial⟩ hn hCD (fr C hiC hnC) hiC
      · exact hk.elim

theorem comp_ev {T : Tab} {r : EVs} (S : Snd T r) {c : Cx} (ok : t.Ok c.ks) (hT : TabOk t.g t.n T) {elt tgt iter : Expr} {ifs : List Expr} {scope : Scope} {line : Nat} {pos : Pos} {k : V → Prop}
    (h : compW r c σ elt tgt iter ifs scope line k) : EvOk t X σ (.ListComp elt [⟨tgt, iter, ifs, 0⟩] scope pos) k := by
  intro s Q st hQ
  show wpAny _ _ (comprehension (.ListComp elt [⟨tgt, iter, ifs, 0⟩] scope pos) scope t.env _ (newList []) false (eval iter t.env) none) _ _ s
  refine comp_any S ok hT h st fun R D C h' tk m' hk p hr hn hCD hC hi => ⟨m', hn, fun h'' hs => hQ R _ _ hk (p.at hs hC hi) (hr.sit ?_)⟩
  exact ⟨fun a vs z ⟨q, e⟩ => ⟨q, hs.extBut a _ (by rintro rfl; exact (not_list_of_ns hn vs).1 ⟨q, e⟩) e⟩, fun a vs z ⟨q, e⟩ => ⟨q, hs.extBut a _ (by rintro rfl; exact (not_list_of_ns hn vs).2 ⟨q, e⟩) e⟩⟩
end
end Mine

namespace Mine

theorem behind {op : CmpOp} (h : cmpOk op = true) (r : Expr) : behindInMarks op r = false := by
  cases r with
  | Set es k p =>
    have : (op == .In || op == .NotIn) = false := by cases op <;> first | exact noT h | rfl
    show (k == 0 && (op == .In || op == .NotIn) && es.all (constantsAlone 8)) = false
    rw [this, Bool.and_false, Bool.false_and]
  | _ => rfl

section
variable {t : Rt} {X : Av} {σ : Sto} {s : Shared}

theorem mkLst_ok {ds : List V} {k : V → Prop} (h : mkLst ds k) : ∃ d, k d ∧ ∀ (h : Heap) (a : Addr) (vs : List Value), LR (Rep X h) ds vs → LstAt h a vs → a ∉ X.Z → Rep X h d (.ref a) := by
  cases ds with
  | nil => exact ⟨_, h, fun h a vs r l z => ⟨a, vs, rfl, z, l, by rw [r.none]; trivial⟩⟩
  | cons v ds =>
    have h : (match vPoly v with | some p => asPolys ds fun l => k (.polys (p :: l)) | none => asRats (v :: ds) fun l => k (.poly l)) := h
    split at h
    · rename_i p e
      obtain ⟨l, h1, h2⟩ := asPolys_ok h
      refine ⟨_, h1, fun h a vs r lt z => ⟨a, vs, rfl, z, lt, ?_⟩⟩
      obtain ⟨v', vs, rfl, r1, r2⟩ := r.cons
      rw [vPoly_eq e] at r1
      exact ⟨r1, h2 _ _ _ r2⟩
    · obtain ⟨l, h1, h2⟩ := asRats_ok h
      exact ⟨_, h1, fun h a vs r lt z => ⟨a, vs, rfl, z, lt, h2 _ _ _ r⟩⟩

theorem mkTup_ok {ds : List V} {k : V → Prop} (h : mkTup ds k) : ds.length ≤ 4 ∧ ∃ d, k d ∧ ∀ (h : Heap) (a : Addr) (vs : List Value), LR (Rep X h) ds vs → TupAt h a vs → a ∉ X.Z → Rep X h d (.ref a) := by
  unfold mkTup at h
  split at h
  · rename_i x y e
    rw [two_eq e]
    refine ⟨Nat.le_of_ble_eq_true rfl, _, h, fun h a vs r l z => ?_⟩
    obtain ⟨u, v, rfl, r1, r2⟩ := r.two
    exact ⟨a, u, v, rfl, z, l, r1, r2⟩
  · split at h
    · rename_i e
      obtain ⟨l, h1, h2⟩ := asRats_ok h
      exact ⟨Nat.le_of_eq (Nat.eq_of_beq_eq_true e), _, h1, fun h a vs r lt z => ⟨a, vs, rfl, z, lt, h2 _ _ _ r⟩⟩
    · exact h.elim

theorem rep_push {ds : List V} {ws : List Value} (st : St t X σ s) {o : Obj} (r : LR (Rep X s.heap) ds ws) : LR (Rep X (s.heap.push o)) ds ws :=
  r.mono fun _ _ x => x.keep st.wf.ok (s' := { s with heap := s.heap.push o }) (Stp.push (tk := s.toks))

theorem evOpt_ok {f : Expr → (V → Prop) → Prop} (hf : ∀ e k, f e k → EvOk t X σ e k) {x : Option Expr} {k : Option Int → Prop} (h : evOpt f x k) (st : St t X σ s) {Q : Value → Shared → Prop}
    (hQ : ∀ i v s', k i → Stp X s s' → IsPart v i → Q v s') : wpAny (model t.g.prog t.g.w) t.A (evalPart x t.env) Q noE s := by
  cases x with
  | none => rw [evalPart_none]; exact wpAny_pure (hQ _ _ _ h (.refl ..) .none)
  | some e =>
    rw [evalPart_some]
    refine hf _ _ h s _ st fun d v s' hk p r => ?_
    split at hk
    · rename_i e
      obtain rfl := vInt_eq e
      obtain ⟨u, rfl⟩ := r
      exact hQ _ _ _ hk.2 p (.int _ _)
    · exact hk.elim

theorem boolE_ok {f : Expr → (V → Prop) → Prop} (hf : ∀ e k, f e k → EvOk t X σ e k) {op : BoolOp} {pos : Pos} {es : List Expr} {k : V → Prop} (h : boolE f (isOp op) es k) : ∀ s (Q : Value → Shared → Prop), St t X σ s →
    (∀ d v s', k d → Stp X s s' → Rep X s'.heap d v → Q v s') → wpAny (model t.g.prog t.g.w) t.A (boolOp pos op (evalEach es t.env)) Q noE s := by
  induction es with
  | nil => exact False.elim h
  | cons e r ih =>
    intro s Q st hQ
    cases r with
    | nil => exact hf e k h s Q st hQ
    | cons e2 r =>
      have h : f e (boolC (isOp op) (boolE f (isOp op) (e2 :: r)) k) := h
      show wpAny _ _ (do
        let v ← eval e t.env
        standAt pos
        let t' ← holding [v] (truthy v)
        match op, t' with
        | .And, false | .Or, true => pure v
        | _, _ => boolOp pos op (evalEach (e2 :: r) t.env)) Q noE s
      refine wpAny_bind (hf _ _ h s _ st fun d v s₁ h₁ p₁ r₁ => wpAny_bind (wpAny_standAt ?_))
      unfold boolC at h₁
      split at h₁
      · rename_i b e'
        obtain rfl := vBool_eq e'
        have hv : v = .bool b := r₁
        subst hv
        refine wpAny_bind (wpAny_holding (wpAny_truthy_bool ?_))
        have rest := fun hb => ih (h₁.2 hb) s₁ Q (st.keep p₁) fun d v s₂ hk p₂ r₂ => hQ d v s₂ hk (p₁.trans p₂) r₂
        cases op <;> cases b
        · exact wpAny_pure (hQ _ _ _ (h₁.1 rfl) p₁ rfl)
        · exact rest rfl
        · exact rest rfl
        · exact wpAny_pure (hQ _ _ _ (h₁.1 rfl) p₁ rfl)
      · exact h₁.elim

theorem boolT_ok {f : Expr → (Bool → Prop) → Prop} (hf : ∀ e k, f e k → TstOk t X σ e k) {op : BoolOp} : ∀ {es : List Expr} {k : Bool → Prop}, boolT f (isOp op) es k → ∀ s (Q : Bool → Shared → Prop), St t X σ s →
    (∀ b s', k b → Stp X s s' → Q b s') → wpAny (model t.g.prog t.g.w) t.A (allTrue op es t.env) Q noE s
  | [], k, h, s, Q, st, hQ => by
    cases op
    · exact wpAny_allTrue_And_nil (hQ _ _ h (.refl ..))
    · exact wpAny_allTrue_Or_nil (hQ _ _ h (.refl ..))
  | e :: r, k, h, s, Q, st, hQ => by
    have rest := fun {s₁ b} (h₁ : (b = isOp op → k (isOp op)) ∧ (b = !isOp op → boolT f (isOp op) r k)) (p₁ : Stp X s s₁) hb => boolT_ok hf (h₁.2 hb) s₁ Q (st.keep p₁) fun b s₂ hk p₂ => hQ b s₂ hk (p₁.trans p₂)
    cases op
    · refine wpAny_allTrue_And_cons (hf e _ h s _ st fun b s₁ h₁ p₁ => ?_)
      cases b
      · exact hQ _ _ (h₁.1 rfl) p₁
      · exact rest h₁ p₁ rfl
    · refine wpAny_allTrue_Or_cons (hf e _ h s _ st fun b s₁ h₁ p₁ => ?_)
      cases b
      · exact rest h₁ p₁ rfl
      · exact hQ _ _ (h₁.1 rfl) p₁

theorem ixSlice {lo hi : Option Int} {d : V} {k : V → Prop} (h : cutW lo hi d k) {v : Value} (r : Rep X s.heap d v) : ∃ l vs p, v = .ref l ∧ LstAt s.heap l vs ∧ vs.length ≤ sizeLine ∧ k (.poly p) ∧
    ∃ ws, slicePick vs.toArray lo hi none = ws.toArray ∧ LR (RRat X s.heap) p ws := by
  unfold cutW at h
  split at h
  · rename_i p e
    obtain rfl := vPoly_eq e
    obtain ⟨l, vs, rfl, z, lt, q⟩ := r
    have hlen := q.length
    have le : p.length ≤ szL → vs.length ≤ sizeLine := fun h => by rw [hlen]; exact Nat.le_trans h szL_le
    cases lo with
    | none => cases hi with
      | none => exact False.elim h
      | some i =>
        refine ⟨l, vs, _, rfl, lt, le h.1, h.2, vs.take (loOf p.length i), ?_, q.take _⟩
        unfold loOf
        by_cases hi : i < 0
        · rw [if_pos hi]
          obtain ⟨m, rfl⟩ : ∃ m : Nat, i = -(m : Int) := ⟨i.natAbs, by omega⟩
          rw [slicePick_butLast _ m (by omega)]
          simp only [List.size_toArray, hlen]
          congr 2; omega
        · rw [if_neg hi]
          obtain ⟨m, rfl⟩ : ∃ m : Nat, i = (m : Int) := ⟨i.natAbs, by omega⟩
          rw [slicePick_upto']
          simp
    | some i => cases hi with
      | some _ => exact False.elim h
      | none =>
        refine ⟨l, vs, _, rfl, lt, le h.1.2, h.2, vs.drop i.toNat, ?_, q.drop _⟩
        obtain ⟨m, rfl⟩ : ∃ m : Nat, i = (m : Int) := ⟨i.natAbs, by have := h.1.1; omega⟩
        rw [slicePick_from']
        simp
  · exact h.elim

theorem IsPart.det {v : Value} {i j : Option Int} (a : IsPart v i) (b : IsPart v j) : i = j := by cases a <;> cases b <;> rfl
end
end Mine

namespace Mine

section
variable {t : Rt} {X : Av} {σ : Sto} {s : Shared}

theorem subTail_slice {prog w A E} {value : Expr} {lower upper : Option Expr} {p : Pos} {l sl : Addr} {items : Array Value} {vl vu vs : Value} {lo hi : Option Int} {s : Shared} {Q : Value → Shared → Prop} (hl : s.heap.IsList l items)
    (hs : s.heap.IsSliceOf sl vl vu vs) (pl : IsPart vl lo) (pu : IsPart vu hi) (ps : IsPart vs none)
    (h : Q (.ref s.heap.objs.size) { s with heap := s.heap.push { cls := .type "list", data := .seq (slicePick items lo hi none) } })
    (hsz : items.size ≤ sizeLine) : wpAny (model prog w) A (subscriptTail value (.Slice lower upper none p) (.ref l) (.ref sl)) Q E s :=
  tail_any (ops := [.ref sl, .ref l]) hl.typeIs list_getitem_lookup (wpAny_getItem_list_slice hl hs pl pu ps (by simp) h hsz) rfl

theorem evs_len {f : Expr → (V → Prop) → Prop} (hs : NoStar f) (hf : ∀ e k, f e k → EvOk t X σ e k) (pos : Pos) : ∀ {es : List Expr} {k : List V → Prop}, evs f es k → ∀ s (Q : List Value → Shared → Prop), St t X σ s →
    (∀ ds vs s', k ds → Stp X s s' → LR (Rep X s'.heap) ds vs → vs.length = es.length → Q vs s') → wpAny (model t.g.prog t.g.w) t.A (spliced (backTo pos (starEach es t.env))) Q noE s
  | [], k, h, s, Q, st, hQ => wpAny_items_nil (hQ _ _ _ h (.refl ..) trivial rfl)
  | e :: r, k, h, s, Q, st, hQ => by
    refine wpAny_items_cons (hf e _ h s _ st fun d v s₁ h₁ p₁ r₁ => ?_) (starEach_cons fun x p ex => hs x p _ (ex ▸ h))
    refine evs_len hs hf pos h₁ s₁ _ (st.keep p₁) fun ds vs s₂ h₂ p₂ r₂ hl => hQ _ _ _ h₂ (p₁.trans p₂) ⟨r₁.keep st.wf.ok p₂, r₂⟩ (by simp [hl])

theorem ownIs_eq {x : Str} {q : List Rat} (h : ownIs σ x = some q) : σ.own = some (x, q) := by
  unfold ownIs at h
  split at h
  · rename_i y p e
    split at h
    · rename_i hy; cases h; rw [e, eq_of_beq hy]
    · exact no h
  · exact no h

theorem idxW_poly {q : List Rat} {iv : V} {k : V → Prop} (h : idxW (.poly q) iv k) : ∃ i, iv = .int i ∧ ixOk q.length i ∧ k (.rat (q.getD (ixOf q.length i) 0)) := by
  unfold idxW at h
  split at h
  · rename_i i e
    exact ⟨i, vInt_eq e, h⟩
  · exact h.elim
theorem plain_of {i : Expr} (h : vSlice i = none) : plainIx i = true := by
  cases i <;> first | rfl | exact yes h

theorem pushed {o : Obj} {tk : Nat} : Stp X s { s with heap := s.heap.push o, toks := tk } := .push

theorem listW {r : EVs} {c : Cx} {es : List Expr} {k : V → Prop} (h : match Nat.ble es.length 100 with | true => evs (r.ev c σ) es fun vs => mkLst vs k | false => False) : es.length ≤ 100 ∧ evs (r.ev c σ) es fun vs => mkLst vs k := by
  split at h
  · rename_i e; exact ⟨Nat.le_of_ble_eq_true e, h⟩
  · exact h.elim
theorem cmpG_at {r : EVs} {c : Cx} {l rr : Expr} {op : CmpOp} {k : Bool → Prop} (h : cmpG r c σ l op rr k) : cmpOk op = true ∧ r.ev c σ l fun a => r.ev c σ rr fun b => cmpW op a b k := by
  unfold cmpG at h
  split at h
  · rename_i e; exact ⟨e, h⟩
  · exact h.elim

theorem ev1_ok {T : Tab} {r : EVs} (S : Snd T r) {c : Cx} (ok : t.Ok c.ks) (hT : TabOk t.g t.n T) {e : Expr} {k : V → Prop} (h : ev1 T r c σ e k) : EvOk t X σ e k := by
  have hev : ∀ e k, r.ev c σ e k → EvOk t X σ e k := fun e k h => S.ev t c σ e k X ok hT h
  have htst : ∀ e k, r.tst c σ e k → TstOk t X σ e k := fun e k h => S.tst t c σ e k X ok hT h
  have hu : t.A.units + 64 < cLine := by
    have := ok.room.units; have : cLine = 9900 := by decide
    omega
  cases e with
  | Name x p => exact nameW_ok ok h
  | Constant v kk p => cases v with
    | int i => intro s Q st hQ; exact wpAny_Constant_int (hQ _ _ _ h .toks ⟨_, rfl⟩)
    | bool b => intro s Q st hQ; exact Constant_bool (hQ _ _ _ h (.refl ..) rfl)
    | str x => intro s Q st hQ; exact wpAny_Constant_str (hQ _ _ _ h .toks ⟨_, rfl⟩)
    | none => intro s Q st hQ; exact Constant_none (hQ _ _ _ h (.refl ..) rfl)
    | _ => exact False.elim h
  | BinOp l op rr p =>
    intro s Q st hQ
    refine wpAny_BinOp (hev _ _ h s _ st fun a va s₁ h₁ p₁ r₁ => hev _ _ h₁ s₁ _ (st.keep p₁) fun b vb s₂ h₂ p₂ r₂ => ?_)
    have st₂ := (st.keep p₁).keep p₂
    exact binW_ok st₂.wf.zs (room_of ok st₂) h₂ (r₁.keep st.wf.ok p₂) r₂ fun d v s₃ hk p₃ r₃ _ => hQ d v s₃ hk ((p₁.trans p₂).trans p₃) r₃
  | UnaryOp op x p => cases op with
    | USub =>
      intro s Q st hQ
      refine UnaryOp_ (hev _ _ h s _ st fun a va s₁ h₁ p₁ r₁ => ?_)
      split at h₁
      · rename_i e
        rw [vInt_eq e] at r₁
        obtain ⟨u, rfl⟩ := r₁
        exact neg_int (hQ _ _ _ h₁ (p₁.trans .toks) ⟨_, rfl⟩)
      · exact h₁.elim
    | Not =>
      intro s Q st hQ
      refine UnaryOp_ (hev _ _ h s _ st fun a va s₁ h₁ p₁ r₁ => ?_)
      split at h₁
      · rename_i e
        rw [vBool_eq e] at r₁
        have : va = .bool _ := r₁
        subst this
        exact not_of (wpAny_truthy_bool (hQ _ _ _ h₁ p₁ rfl))
      · exact h₁.elim
    | _ => exact False.elim h
  | IfExp te a b p =>
    intro s Q st hQ
    refine IfExp_ (htst _ _ h s _ st fun b s₁ h₁ p₁ => ?_)
    cases b
    · exact hev _ _ (h₁.2 rfl) s₁ Q (st.keep p₁) fun d v s₂ hk p₂ r₂ => hQ d v s₂ hk (p₁.trans p₂) r₂
    · exact hev _ _ (h₁.1 rfl) s₁ Q (st.keep p₁) fun d v s₂ hk p₂ r₂ => hQ d v s₂ hk (p₁.trans p₂) r₂
  | Tuple es kk p =>
    intro s Q st hQ
    refine Tuple_ (evs_len (S.star c σ) hev _ h s _ st fun ds vs s₁ h₁ p₁ r₁ _ => ?_)
    obtain ⟨hl, d, hk, hr⟩ := mkTup_ok (X := X) h₁
    have st₁ := st.keep p₁
    refine wpAny_newObj_type ?_ (by show vs.toArray.size ≤ sizeLine; rw [List.size_toArray, r₁.length]; exact Nat.le_trans hl (by decide))
    exact hQ _ _ _ hk (p₁.trans .push) (hr _ _ _ (rep_push st₁ r₁) .push st₁.wf.zs.fresh)
  | List es p =>
    obtain ⟨hb, h⟩ := listW h
    intro s Q st hQ
    refine List_ (evs_len (S.star c σ) hev _ h s _ st fun ds vs s₁ h₁ p₁ r₁ hl => ?_)
    obtain ⟨d, hk, hr⟩ := mkLst_ok (X := X) h₁
    have st₁ := st.keep p₁
    refine wpAny_newObj_type ?_ (by show vs.toArray.size ≤ sizeLine; rw [List.size_toArray, hl]; exact Nat.le_trans hb (by decide))
    exact hQ _ _ _ hk (p₁.trans .push) (hr _ _ _ (rep_push st₁ r₁) .push st₁.wf.zs.fresh)
  | Compare l ops rs p =>
    replace h : (match vCmp ops rs with | some (op, rr) => cmpG r c σ l op rr fun x => k (.bool x) | none => False) := h
    split at h
    · rename_i op rr e
      rw [(vCmp_eq e).1, (vCmp_eq e).2]
      obtain ⟨hop, h⟩ := cmpG_at h
      intro s Q st hQ
      refine wpAny_Compare1 (hev _ _ h s _ st fun a va s₁ h₁ p₁ r₁ => hev _ _ h₁ s₁ _ (st.keep p₁) fun b vb s₂ h₂ p₂ r₂ => ?_) (behind hop _)
      exact cmpW_ok hu h₂ (r₁.keep st.wf.ok p₂) r₂ fun x hk => hQ _ _ _ hk (p₁.trans p₂) rfl
    · exact h.elim
  | BoolOp op es p =>
    intro s Q st hQ
    show wpAny _ _ (boolOp _ _ (evalEach _ t.env)) _ _ _
    exact boolE_ok hev h s Q st hQ
  | Call f args kw p =>
    replace h : (match vCallN (.Call f args kw p) with | some (f, _, args, _) => callW T r c σ f args k | none => False) := h
    split at h
    · rename_i f' px args' p' e
      rw [vCallN_eq e]
      unfold callW at h
      split at h
      · rename_i hg
        rw [Bool.and_eq_true] at hg
        split at h
        · rename_i hS
          exact callW_ok ok (S.star c σ) hev hg.1 (hT _ _ hS) hg.2 h
        · exact h.elim
      · exact h.elim
    · exact h.elim
  | Subscript b i p =>
    replace h : subW r c σ b i k := h
    unfold subW at h
    split at h
    · rename_i lo hi st0 sp e
      rw [vSlice_eq e]
      cases st0 with
      | some _ => exact False.elim h
      | none =>
        intro s Q st hQ
        refine Subscript_ (hev _ _ h s _ st fun d v s₁ h₁ p₁ r₁ => wpAny_Slice (evOpt_ok hev h₁ (st.keep p₁) fun lo vl s₂ h₂ p₂ pl => evOpt_ok hev h₂ ((st.keep p₁).keep p₂) fun hi vh s₃ h₃ p₃ ph => ?_))
        rw [evalPart_none]
        refine wpAny_pure ?_
        have st₃ := ((st.keep p₁).keep p₂).keep p₃
        obtain ⟨l, vs, p, rfl, hl, hsz, hk, ws, he, hr⟩ := ixSlice h₃ ((r₁.keep st.wf.ok p₂).keep st.wf.ok p₃)
        refine subTail_slice (hl.isList.push _) (Heap.IsSliceOf.new ..) pl ph .none ?_ (by simpa using hsz)
        have q1 : Stp X s₃ { s₃ with heap := s₃.heap.push { cls := .type "slice", data := .fields #[vl, vh, .none] } } := Stp.push (tk := s₃.toks)
        have st₄ := st₃.keep q1
        have q2 : Stp X s₃ { s₃ with heap := (s₃.heap.push { cls := .type "slice", data := .fields #[vl, vh, .none] }).push { cls := .type "list", data := .seq (slicePick vs.toArray lo hi none) } } := q1.trans (Stp.push (tk := s₃.toks))
        refine hQ _ _ _ hk (((p₁.trans p₂).trans p₃).trans q2) ⟨_, ws, rfl, st₄.wf.zs.fresh, ?_, hr.mono fun _ _ x => x.keep st.wf.ok q2⟩
        rw [he]; exact .push
    · rename_i e
      have hp := plain_of e
      intro s Q st hQ
      split at h
      · rename_i q ho
        obtain ⟨x, px, rfl, ho⟩ := ownN_eq ho
        obtain ⟨m, hn, hv, hw⟩ := st.vars
        have ho' : σ.own = some (_, q) := ownIs_eq ho
        obtain ⟨⟨a, vs, w⟩, z⟩ := hw _ _ ho'
        refine Subscript_ (name_held ok hn (.inl ⟨w.kind, w.val⟩) (hev _ _ h s _ st fun d v s₁ h₁ p₁ r₁ => ?_))
        have hl := w.at_.keep p₁ w.nB
        have hr := w.items.mono fun _ _ x => x.keep st.wf.ok p₁
        obtain ⟨i, rfl, h2, h3⟩ := idxW_poly h₁
        obtain ⟨u, rfl⟩ := r₁
        obtain ⟨v, e1, e2⟩ := hr.ix (d := 0) h2
        exact subscriptTail_list hp hl (by rw [hr.length]; exact h2) e1 (hQ _ _ _ h3 p₁ e2)
      · exact Subscript_ (hev _ _ h s _ st fun d v s₁ h₁ p₁ r₁ => hev _ _ h₁ s₁ _ (st.keep p₁) fun b vb s₂ h₂ p₂ r₂ => idxW_ok hp h₂ (r₁.keep st.wf.ok p₂) r₂ fun d v hk r => hQ d v _ hk (p₁.trans p₂) r)
  | ListComp elt gens scope pos =>
    replace h : (match vGen gens with | some (tgt, iter, ifs) => compW r c σ elt tgt iter ifs scope pos.line k | none => False) := h
    split at h
    · rename_i tgt iter ifs e
      rw [vGen_eq e]
      exact comp_ev S ok hT h
    · exact h.elim
  | _ => exact False.elim h

theorem isNil_eq {e : Expr} (h : isNilList e = true) : ∃ p, e = .List [] p := by
  cases e with
  | List es p => exact ⟨p, by rw [List.isEmpty_iff.mp h]⟩
  | _ => exact noT h
theorem ownNe_eq {l : Expr} {op : CmpOp} {q : List Rat} (h : ownNe σ l op = some q) : op = .NotEq ∧ ∃ x p, l = .Name x p ∧ ownIs σ x = some q := by
  unfold ownNe at h
  split at h
  · rename_i e; exact ⟨isNe_eq e, ownN_eq h⟩
  · exact no h

theorem tst1_ok {T : Tab} {r : EVs} (S : Snd T r) {c : Cx} (ok : t.Ok c.ks) (hT : TabOk t.g t.n T) {e : Expr} {k : Bool → Prop} (h : tst1 r c σ e k) : TstOk t X σ e k := by
  have hev : ∀ e k, r.ev c σ e k → EvOk t X σ e k := fun e k h => S.ev t c σ e k X ok hT h
  have htst : ∀ e k, r.tst c σ e k → TstOk t X σ e k := fun e k h => S.tst t c σ e k X ok hT h
  have hu : t.A.units + 64 < cLine := by
    have := ok.room.units; have : cLine = 9900 := by decide
    omega
  cases e with
  | UnaryOp op x p => cases op with
    | Not =>
      intro s Q st hQ
      exact isTrue_not (htst _ _ h s _ st fun b s₁ h₁ p₁ => hQ _ _ h₁ p₁)
    | _ => exact False.elim h
  | BoolOp op es p =>
    intro s Q st hQ
    rw [arm_isTrue_BoolOp]
    exact boolT_ok htst h s Q st hQ
  | Compare l ops rs p =>
    replace h : (match vCmp ops rs with
      | some (op, rr) => (match ownNe σ l op with
        | some q => (match isNilList rr with
          | true => k (!decide (q = []))
          | false => False)
        | none => cmpG r c σ l op rr k)
      | none => False) := h
    split at h
    · rename_i op rr e
      rw [(vCmp_eq e).1, (vCmp_eq e).2]
      intro s Q st hQ
      split at h
      · rename_i q ho
        obtain ⟨hne, x, px, hl, ho⟩ := ownNe_eq ho
        split at h
        · rename_i hnil
          obtain ⟨pn, rfl⟩ := isNil_eq hnil
          rw [hne, hl]
          obtain ⟨m, hn, hv, hw⟩ := st.vars
          have ho' : σ.own = some (_, q) := ownIs_eq ho
          obtain ⟨⟨a, vs, w⟩, z⟩ := hw _ _ ho'
          refine wpAny_isTrue_Compare1 (name_held ok hn (.inl ⟨w.kind, w.val⟩) ?_) (behind rfl _)
          refine List_ (wpAny_items_nil (wpAny_newObj_type ?_))
          have q1 : Stp X s { s with heap := s.heap.push { cls := .type "list", data := .seq (List.toArray ([] : List Value)) } } := Stp.push (tk := s.toks)
          obtain ⟨n, hl⟩ := w.at_.keep q1 w.nB
          obtain ⟨as, ha⟩ := reads_all (fun _ _ x => reads_rat x) (w.items.mono fun _ _ x => x.keep st.wf.ok q1)
          refine ne_dataH (reads_list_at hl rfl rfl (by simpa using ha)) (reads_list_at (Heap.get?_push_size _ rfl) rfl rfl .nil) (shaped_of (datP_lay q) (Nat.le_trans (datP_depth q) (by decide))) (by decide) hu ?_
          refine wpAny_truthy_bool (hQ _ _ ?_ q1)
          have e : PyData.eqv (.list (q.map datR)) (.list []) = decide (q = []) := Bool.eq_iff_iff.mpr nil_eqv
          rw [e]; exact h
        · exact h.elim
      · obtain ⟨hop, h⟩ := cmpG_at h
        refine wpAny_isTrue_Compare1 (hev _ _ h s _ st fun a va s₁ h₁ p₁ r₁ => hev _ _ h₁ s₁ _ (st.keep p₁) fun b vb s₂ h₂ p₂ r₂ => ?_) (behind hop _)
        exact cmpW_ok hu h₂ (r₁.keep st.wf.ok p₂) r₂ fun x hk => wpAny_truthy_bool (hQ _ _ hk (p₁.trans p₂))
    · exact h.elim
  | Call f a kw p =>
    intro s Q st hQ
    refine isTrue_plain (hev _ _ h s _ st fun d v s₁ h₁ p₁ r₁ => ?_)
    split at h₁
    · rename_i e
      rw [vBool_eq e] at r₁
      have : v = .bool _ := r₁
      subst this
      exact wpAny_truthy_bool (hQ _ _ h₁ p₁)
    · exact h₁.elim
  | _ => exact False.elim h
end
end Mine

namespace Mine

section
variable {t : Rt} {X : Av} {σ : Sto} {s : Shared}

theorem ev1_fresh {T : Tab} {r : EVs} (S : Snd T r) {c : Cx} (ok : t.Ok c.ks) (hT : TabOk t.g t.n T) {e : Expr} {k : V → Prop} (hf : freshE e = true) (h : ev1 T r c σ e k) : FreshOk t X σ e k := by
  have hev : ∀ e k, r.ev c σ e k → EvOk t X σ e k := fun e k h => S.ev t c σ e k X ok hT h
  have bin : ∀ {l op rr pos}, (r.ev c σ l fun a => r.ev c σ rr fun b => binW op a b k) → FreshOk t X σ (.BinOp l op rr pos) k := by
    intro l op rr pos h s Q st hQ
    refine wpAny_BinOp (hev _ _ h s _ st fun a va s₁ h₁ p₁ r₁ => hev _ _ h₁ s₁ _ (st.keep p₁) fun b vb s₂ h₂ p₂ r₂ => ?_)
    have st₂ := (st.keep p₁).keep p₂
    exact binW_ok st₂.wf.zs (room_of ok st₂) h₂ (r₁.keep st.wf.ok p₂) r₂ fun d v s₃ hk p₃ r₃ hn => hQ d v s₂ s₃ hk (p₁.trans p₂) p₃ r₃ hn
  cases e with
  | List es p =>
    obtain ⟨hb, h⟩ := listW h
    intro s Q st hQ
    refine List_ (evs_len (S.star c σ) hev _ h s _ st fun ds vs s₁ h₁ p₁ r₁ hl => ?_)
    obtain ⟨d, hk, hr⟩ := mkLst_ok (X := X) h₁
    have st₁ := st.keep p₁
    refine wpAny_newObj_type ?_ (by show vs.toArray.size ≤ sizeLine; rw [List.size_toArray, hl]; exact Nat.le_trans hb (by decide))
    exact hQ _ _ _ _ hk p₁ .push (hr _ _ _ (rep_push st₁ r₁) .push st₁.wf.zs.fresh) (by intro a e; cases e; exact none_of_size)
  | BinOp l op rr p => exact bin h
  | _ => exact noT hf

theorem Av.Le.inB {X Y : Av} (l : X.Le Y) {a : Addr} : X.inB a ↔ Y.inB a := by unfold Av.inB; rw [l.bx]

theorem Stp.av {X Y : Av} {s s' : Shared} (l : X.bx = Y.bx) (p : Stp X s s') : Stp Y s s' where
  keep a o i e := p.keep a o (fun j => i (by unfold Av.inB at j ⊢; rw [← l]; exact j)) e
  box b c e := p.box b c (l.trans e)
  rest := p.rest

theorem Core.down (h : Core t X s) (x0 : t.X0.Ok) : Core t t.X0 s where
  wf := ⟨x0, h.wf.base, fun a m => h.wf.zB a (h.le.sub a m), fun b c e => h.wf.box b c (h.le.bx.symm.trans e), fun a m => h.wf.zin a (h.le.sub a m)⟩
  le := .refl _
  kept := h.kept
  kL := h.kL
  kC := h.kC
  kB a o k i := h.kB a o k (h.le.inB.mp i)
  Lb i := h.Lb (h.le.inB.mp i)
  Cb x c e := let ⟨a, b⟩ := h.Cb x c e; ⟨fun i => a (h.le.inB.mp i), b⟩
  Ci := h.Ci
  LB := h.LB
  CB := h.CB
  gh d v g := (h.gh d v g).le h.le
  rest := h.rest

/-- more is to be avoided: what was not there before -/
theorem St.lift {X' : Av} {s₁ : Shared} (h₁ : St t X σ s₁) (p : Stp X s₁ s) (le : X.Le X') (up : ∀ b ∈ X'.Z, b ∈ X.Z ∨ s₁.heap.get? b = none) (ex : ∀ a ∈ X'.Z, ∃ o, s.heap.get? a = some o) (nB : ∀ a ∈ X'.Z, t.g.B.get? a = none) : St t X' σ s := by
  have h := h₁.keep p
  have u : Up X X' s₁.heap := ⟨fun b m => (up b m).imp id fun e vs => ⟨fun ⟨n, q⟩ => (by rw [e] at q; cases q), fun ⟨n, q⟩ => (by rw [e] at q; cases q)⟩, le.bx⟩
  have ok' : X'.Ok := ⟨fun a i => le.sub a (h.wf.ok.mem a (le.inB.mpr i))⟩
  have rp : ∀ {d : V} {v : Value}, Rep X s₁.heap d v → Rep X' s.heap d v := fun r => (r.up u).keep ok' (p.av le.bx)
  refine ⟨⟨⟨ok', h.wf.base, nB, (fun b c e => h.wf.box b c (le.bx.trans e)), ex⟩, h.core.le.trans le, h.core.kept, h.core.kL, h.core.kC, fun a o k i => h.core.kB a o k (le.inB.mpr i), fun i => h.core.Lb (le.inB.mpr i),
    (fun x c e => let ⟨a, b⟩ := h.core.Cb x c e; ⟨fun i => a (le.inB.mpr i), b⟩), h.core.Ci, h.core.LB, h.core.CB, fun d v g => rp (h₁.core.gh d v g), h.core.rest⟩, ?_⟩
  obtain ⟨m, hn, hv, ho⟩ := h₁.vars
  refine ⟨m, hn.at' fun o e => p.keep _ _ h₁.core.Lb e, fun x d e => ?_, fun x q e => ?_⟩
  · obtain ⟨v, hh, r⟩ := hv x d e
    exact ⟨v, hh.imp id fun ⟨a, c, b, i⟩ => ⟨a, c, b, IsCell.keep p (h₁.core.Cb x c b).1 i⟩, rp r⟩
  · obtain ⟨⟨a, vs, w⟩, z⟩ := ho x q e
    exact ⟨⟨a, vs, ⟨w.kind, w.val, le.sub _ w.inZ, w.out, fun i => w.nB (le.inB.mpr i), w.at_.keep p w.nB, w.items.mono fun _ _ x => rp (d := .rat _) x, w.K⟩⟩, z⟩

theorem subSt_get : ∀ {σ τ : Store}, subSt σ τ → ∀ {x : Str} {d : V}, σ.lookup x = some d → ∃ u, τ.lookup x = some u ∧ conv u d
  | [], _, _, x, d, e => by simp at e
  | (y, v) :: l, τ, h, x, d, e => by
    simp only [List.lookup_cons] at e
    split at e
    · rename_i q; obtain rfl := eq_of_beq q
      cases e
      have := h.1
      split at this
      · rename_i u hu; exact ⟨u, hu, this⟩
      · exact this.elim
    · exact subSt_get h.2 e

theorem St.sub {τ : Sto} (h : St t X τ s) (hs : subS σ τ) : St t X σ s := by
  refine ⟨h.core, ?_⟩
  obtain ⟨m, v⟩ := h.vars
  refine ⟨m, v.ns, fun x d e => ?_, fun x p e => ?_⟩
  · obtain ⟨u, hu, c⟩ := subSt_get hs.1 e
    obtain ⟨w, hh, r⟩ := v.vals x u hu
    exact ⟨w, hh, conv_ok c r⟩
  · have h2 := hs.2
    rw [e] at h2
    cases e2 : τ.own with
    | none => rw [e2] at h2; exact False.elim h2
    | some z =>
      obtain ⟨y, q⟩ := z
      rw [e2] at h2
      replace h2 : (match x == y with | true => q = p | false => False) := h2
      split at h2
      · rename_i hy
        obtain rfl := eq_of_beq hy
        subst h2
        obtain ⟨w, z⟩ := v.own _ _ e2
        refine ⟨w, ?_⟩
        cases q : σ.ρ.lookup x with
        | none => rfl
        | some d => obtain ⟨u, hu, _⟩ := subSt_get hs.1 q; rw [z] at hu; exact yes hu.symm
      · exact h2.elim

theorem St.weak' {τ : Sto} (h : St t X τ s) (hρ : ∀ x d, σ.ρ.lookup x = some d → τ.ρ.lookup x = some d) (ho : σ.own = τ.own) : St t X σ s :=
  ⟨h.core, let ⟨m, v⟩ := h.vars; ⟨m, v.ns, fun x d e => v.vals x d (hρ x d e), fun x p e => by
    obtain ⟨w, z⟩ := v.own x p (ho ▸ e)
    refine ⟨w, ?_⟩
    cases q : σ.ρ.lookup x with
    | none => rfl
    | some d => rw [hρ x d q] at z; cases z⟩⟩

theorem lookup_drop {x y : Str} : ∀ {ρ : Store}, (drop x ρ).lookup y = if y = x then none else ρ.lookup y
  | [] => by simp [drop]
  | (z, v) :: ρ => by
    have ih := lookup_drop (x := x) (y := y) (ρ := ρ)
    unfold drop at ih ⊢
    by_cases hz : z = x
    · subst hz
      simp only [List.filter_cons, beq_self_eq_true, Bool.not_true, Bool.false_eq_true, if_false]
      rw [ih]
      by_cases hy : y = z
      · simp [hy]
      · have : (y == z) = false := beq_eq_false_iff_ne.mpr hy
        simp [hy, List.lookup_cons, this]
    · have hz' : (z == x) = false := beq_eq_false_iff_ne.mpr hz
      simp only [List.filter_cons, hz', Bool.not_false, if_true, List.lookup_cons]
      by_cases hy : y = z
      · subst hy; simp [hz]
      · have : (y == z) = false := beq_eq_false_iff_ne.mpr hy
        simp only [this, ih]

/-- a fresh list is given a name of its own -/
theorem own_store {ks : List (Str × NameKind)} (ok : t.Ok ks) (st : St t X σ s) {x : Str} {p : List Rat} {a : Addr} {vs : List Value} {Q : Unit → Shared → Prop} (hx : ks.lookup x = some .local)
    (hZ : a ∈ X.Z) (hO : a ∉ t.X0.Z) (nB : ¬ X.inB a) (hl : LstAt s.heap a vs) (hr : LR (RRat X s.heap) p vs) (hK : ∀ o, ¬ t.K a o)
    (hQ : ∀ s', St t X { ρ := drop x σ.ρ, own := some (x, p) } s' → (∀ a o, a ≠ t.env.locals → s.heap.get? a = some o → s'.heap.get? a = some o) → Q () s') :
    wpAny (model t.g.prog t.g.w) t.A (storeName t.env x (.ref a)) Q noE s := by
  obtain ⟨m, hn, hv, ho⟩ := st.vars
  have hk := (ok.ks x).2.1 hx
  refine wpAny_storeName_local hk hn (fun h' hn' hs => hQ _ ?_ fun a o q e => hs.extBut a o q e) (by rw [ok.kind]; rfl)
  have c : Chg t X [t.env.locals] s { s with heap := h', toks := s.toks + 1 } := {
    keep := fun a o q e => hs.extBut a o (by simpa using q) e
    rest := ⟨_, _, rfl⟩
    K := by simpa using st.core.kL
    B := by simpa using st.core.LB
    nB := by simpa using st.core.Lb
    ex := fun b hb _ => by simp only [List.mem_singleton] at hb; subst hb; obtain ⟨o, _, _, e, _⟩ := hn'; exact ⟨o, e⟩
    sit := by simpa using .inr (not_list_of_ns hn)
    cell := fun b hb y e => by simp only [List.mem_singleton] at hb; subst hb; exact ((st.core.Cb y _ e).2.1 rfl).elim }
  have aL : a ≠ t.env.locals := by rintro rfl; exact (not_list_of_ns hn vs).1 hl
  refine ⟨st.core.chg c, _, hn', fun y e q => ?_, fun y q e => ?_⟩
  · rw [lookup_drop] at q
    split at q
    · cases q
    · rename_i hyx
      obtain ⟨u, hu, ru⟩ := hv y e q
      refine ⟨u, hu.imp (fun ⟨a, b⟩ => ⟨a, by simp [hyx, b]⟩) fun ⟨a, cc, b, o, i, j⟩ => ⟨a, cc, b, o, c.keep _ _ (by simpa using (st.core.Cb y cc b).2.1) i, j⟩, ru.sit c.sits⟩
  · cases e
    refine ⟨⟨a, vs, ⟨hk, by simp, hZ, hO, nB, ?_, hr.mono fun _ _ r => r.sit c.sits, hK⟩⟩, by rw [lookup_drop]; simp⟩
    obtain ⟨n, e⟩ := hl
    exact ⟨n, c.keep _ _ (by simpa using aL) e⟩

section
variable {prog : Program} {w : World} {A : Around} {R : Result → Shared → Prop}
theorem forLoop_any {target : Expr} {it : Value} {body : List Stmt} {env : Env} (I : Nat → Shared → Prop)
    (turn : ∀ n s, I n s → wpAny (model prog w) A (pyNext it) (fun r s₁ => match r with
      | none => R (.ok .next) s₁
      | some v => wpAny (model prog w) A (letOwnedTupleGo target it v) (fun _ s₁' => wpAny (model prog w) A (assign target env v) (fun _ s₂ => wpAny (model prog w) A (execs body env) (fun f s₃ => match f with
          | .next | .cont => ∃ m, m < n ∧ I m s₃
          | .brk => R (.ok .next) s₃
          | .ret v => R (.ok (.ret v)) s₃) noE s₂) noE s₁') noE s₁) noE s)
    (n : Nat) (h : I n s) : codeAny (model prog w) A (.forLoop target it body [] env) R s := by
  refine codeAny_loop' rfl I (fun n s hI => ?_) n h
  show wpAny _ _ ((forTurn target it body [] env).onRaise (fun x => do noteFrame x env; theTreesLotGoes x)) _ _ s
  refine wpAny_noted ?_
  simp only [forTurn]
  refine wpAny_bind (wpAny_standAt (wpAny_bind (wpAny_onRaise (wpAny_mono (turn n s hI) (fun r s₁ h₁ => ?_) fun _ _ h' => h'.elim))))
  cases r with
  | none => exact wpAny_pure (.inr ⟨rfl, codeAny_block (wpAny_execs_nil h₁)⟩)
  | some v =>
    refine wpAny_bind (wpAny_mono h₁ (fun _ s₁' h₁' => ?_) fun _ _ h' => h'.elim)
    refine wpAny_bind (wpAny_mono h₁' (fun _ s₂ h₂ => wpAny_bind (wpAny_mono h₂ (fun f s₃ h₃ => ?_) fun _ _ h' => h'.elim)) fun _ _ h' => h'.elim)
    cases f with
    | next => exact wpAny_pure (.inl ⟨rfl, h₃⟩)
    | cont => exact wpAny_pure (.inl ⟨rfl, h₃⟩)
    | brk => exact wpAny_pure h₃
    | ret v => exact wpAny_pure h₃
end

theorem blk_ok {T : Tab} {r : EVs} (S : Snd T r) {c : Cx} (ok : t.Ok c.ks) (hT : TabOk t.g t.n T) {kR : V → Prop} : ∀ {l : List Stmt} {X : Av} {σ : Sto} {k : Sto → Prop}, blk (fun τ s k => r.ex c τ s kR k) l σ k → ∀ s (Q : Flow → Shared → Prop), St t X σ s →
    (∀ τ X' s', k τ → X.Le X' → St t X' τ s' → Q .next s') → (∀ d v s', kR d → Core t t.X0 s' → Rep t.X0 s'.heap d v → Q (.ret v) s') → wpAny (model t.g.prog t.g.w) t.A (execs l t.env) Q noE s
  | [], X, σ, k, h, s, Q, st, hN, hR => wpAny_execs_nil (hN _ _ _ h (.refl _) st)
  | b :: l, X, σ, k, h, s, Q, st, hN, hR => by
    refine wpAny_execs_cons (S.ex t c σ b kR _ X ok hT h s _ st (fun τ X' s' hk le st' => ?_) fun d v s' hk hc hr => hR d v s' hk hc hr)
    exact blk_ok S ok hT hk s' Q st' (fun τ' X'' s'' hk' le' st'' => hN _ _ _ hk' (le.trans le') st'') hR

theorem Core.off {fp : List Addr} {h₀ : Heap} {G : V → Value → Prop} (h : Core (withG (withK t fp h₀) G) X s) : Core t X s where
  wf := h.wf
  le := h.le
  kept := fun b o k => h.kept b o (.inl k)
  kL := fun o k => h.kL o (.inl k)
  kC := fun x c e o k => h.kC x c e o (.inl k)
  kB := fun b o k => h.kB b o (.inl k)
  Lb := h.Lb
  Cb := h.Cb
  Ci := h.Ci
  LB := h.LB
  CB := h.CB
  gh := fun d v k => h.gh d v (.inl k)
  rest := h.rest

/-- the walk is over: the iterator is gone -/
theorem LI.done {X3 : Av} {fp wr : List Addr} {Sx : Nat → Heap → Prop} {G : V → Value → Prop} {i : Nat} {s' : Shared} (L : LI t X fp wr Sx G σ i s) (sub : ∀ b ∈ wr, b ∈ fp) (ex : ∀ i h, Sx i h → ∀ b ∈ fp, ∃ o, h.get? b = some o)
    (keep : ∀ a o, a ∉ wr → s.heap.get? a = some o → s'.heap.get? a = some o) (rest : ∃ h' tk, s' = { s with heap := h', toks := tk }) (le : X3.Le X) (l0 : t.X0.Le X3) (ok3 : X3.Ok) (hw : ∀ a ∈ X3.Z, a ∉ wr) (hX : ∀ a ∈ X.Z, a ∉ wr → a ∈ X3.Z) : St t X3 σ s' := by
  have p0 := L.st.gOff.off
  have ap := L.st.gOff.apart (ex i _ L.sx)
  have nb : ∀ b ∈ wr, ¬ X.inB b := fun b m => ap.B b (sub b m)
  have sits : Sits X s.heap s'.heap := ⟨fun a vs z ⟨n, e⟩ => ⟨n, keep _ _ (fun q => z (L.wz a q)) e⟩, fun a vs z ⟨n, e⟩ => ⟨n, keep _ _ (fun q => z (L.wz a q)) e⟩⟩
  have rp : ∀ {d : V} {v : Value}, Rep X s.heap d v → Rep X3 s'.heap d v := fun r => (r.sit sits).le le
  obtain ⟨m, hn, hv, ho⟩ := p0.vars
  have hcell : ∀ x c, t.env.cells.lookup x = some c → ∀ v, s.heap.IsCell c v → s'.heap.IsCell c v := fun x c e v ⟨o, q, r⟩ => ⟨o, keep _ _ (fun z => ap.C x c e (sub _ z)) q, r⟩
  refine ⟨⟨⟨ok3, fun a o e => keep a o (fun q => by rw [p0.wf.zB a (L.wz a q)] at e; cases e) (p0.wf.base a o e), fun a m => p0.wf.zB a (le.sub a m), fun b c e => ?_, fun a m => ?_⟩, l0, fun a o k => keep a o (fun q => L.wk a q o k) (p0.core.kept a o k),
    p0.core.kL, p0.core.kC, fun a o k i => p0.core.kB a o k (le.inB.mp i), fun i => p0.core.Lb (le.inB.mp i), fun x c e => ?_, p0.core.Ci, p0.core.LB, p0.core.CB, fun d v g => rp (p0.core.gh d v g), rest_trans p0.core.rest rest⟩,
    m, hn.at' fun o e => keep _ _ (fun q => ap.L (sub _ q)) e, fun x d e => ?_, fun x p e => ?_⟩
  · obtain ⟨n, u, is, vs, ⟨q1, h1⟩, ⟨q2, h2⟩, h3⟩ := p0.wf.box b c (le.bx.symm.trans e)
    exact ⟨n, u, is, vs, ⟨q1, keep _ _ (fun q => nb _ q (le.inB.mp ⟨b, c, e, .inl rfl⟩)) h1⟩, ⟨q2, keep _ _ (fun q => nb _ q (le.inB.mp ⟨b, c, e, .inr rfl⟩)) h2⟩, h3⟩
  · obtain ⟨o, e⟩ := p0.wf.zin a (le.sub a m)
    exact ⟨o, keep _ _ (hw a m) e⟩
  · obtain ⟨a, b, v, i⟩ := p0.core.Cb x c e
    exact ⟨fun i => a (le.inB.mp i), b, v, hcell x c e v i⟩
  · obtain ⟨v, hh, r⟩ := hv x d e
    exact ⟨v, hh.imp id fun ⟨a, c, b, i⟩ => ⟨a, c, b, hcell x c b _ i⟩, rp r⟩
  · obtain ⟨⟨a, vs, w⟩, z⟩ := ho x p e
    have na : a ∉ wr := fun q => ap.O m x p a vs hn e w (sub a q)
    exact ⟨⟨a, vs, ⟨w.kind, w.val, hX a w.inZ na, w.out, fun i => w.nB (le.inB.mp i), let ⟨n, q⟩ := w.at_; ⟨n, keep _ _ na q⟩, w.items.mono fun _ _ x => rp (d := .rat _) x, w.K⟩⟩, z⟩
end
end Mine

namespace Mine

section
variable {t : Rt} {X : Av} {σ : Sto} {s : Shared}

theorem while_ok {T : Tab} {r : EVs} (S : Snd T r) {c : Cx} (ok : t.Ok c.ks) (hT : TabOk t.g t.n T) {test : Expr} {body : List Stmt} {pos : Pos} {kR : V → Prop} {kN : Sto → Prop} {τσ : Type} {I : τσ → Prop} {μ : τσ → Nat} {J : τσ → Sto} {x0 : τσ} {inner : τσ → List (Nat × Sp)}
    (h : (I x0 ∧ subS (J x0) σ) ∧
        ∀ x, I x → r.tst ⟨c.ks, inner x⟩ (J x) test fun b => (b = true → blk (fun τ s k => r.ex ⟨c.ks, inner x⟩ τ s kR k) body (J x) fun τ => ∃ y, (I y ∧ μ y < μ x) ∧ subS (J y) τ) ∧ (b = false → kN (J x))) :
    ExOk t X σ (.While test body [] pos) kR kN := by
  intro s Q st hN hR
  obtain ⟨⟨h0, hs⟩, turn⟩ := h
  refine wpAny_While (codeAny_whileLoop (fun k s' => ∃ x X', k = μ x ∧ I x ∧ X.Le X' ∧ St t X' (J x) s') ?_ (μ x0) ⟨x0, X, rfl, h0, .refl _, st.sub hs⟩)
  rintro k s' ⟨x, X', rfl, hI, le, st'⟩
  have okx : t.Ok (⟨c.ks, inner x⟩ : Cx).ks := ok
  refine wpAny_noRaise (S.tst t ⟨c.ks, inner x⟩ (J x) test _ X' okx hT (turn x hI) s' _ st' fun b s₁ hb p => ?_)
  have st₁ := st'.keep p
  cases b with
  | false =>
    rw [if_neg (by decide)]
    exact wpAny_execs_nil (hN _ _ _ (hb.2 rfl) le st₁)
  | true =>
    rw [if_pos rfl]
    refine wpAny_noRaise (blk_ok S okx hT (hb.1 rfl) s₁ _ st₁ (fun τ X'' s₂ hk le' st₂ => ?_) fun d v s₂ hk hc hr => hR d v s₂ hk hc hr)
    obtain ⟨y, ⟨hy, hlt⟩, hsub⟩ := hk
    exact ⟨_, hlt, y, X'', rfl, hy, le.trans le', st₂.sub hsub⟩

theorem for_ok {T : Tab} {r : EVs} (S : Snd T r) {c : Cx} (ok : t.Ok c.ks) (hT : TabOk t.g t.n T) {tgt iter : Expr} {body : List Stmt} {pos : Pos} {kR : V → Prop} {kN : Sto → Prop} {sp : Option Sp} (hns : noSet iter = true)
    (h : itW r c σ iter fun n get => forW r c σ tgt body kR kN n get sp) : ExOk t X σ (.For tgt iter body [] pos) kR kN := by
  intro s Q st hN hR
  refine wpAny_For (itW_ok S ok hT h st fun n get it s₁ s' hk0 p I => ?_) (foldSet hns t.env)
  obtain ⟨Ia, fp, wr, Sx, G, rfl, itok⟩ := I
  have st₁ := st.keep p
  have main : ∀ (τσ : Type) (I : Nat → τσ → Prop) (J : Nat → τσ → Sto) (x0 : τσ) (inner : Nat → τσ → List (Nat × Sp)), ((I 0 x0 ∧ subS (J 0 x0) σ) ∧
          (∀ i x, i < n → I i x → bindT c (J i x) tgt (get i) fun τ => blk (fun τ s k => r.ex ⟨c.ks, inner i x⟩ τ s kR k) body τ fun τ' => ∃ y, I (i + 1) y ∧ subS (J (i + 1) y) τ') ∧
          ∀ x, I n x → kN (J n x)) → codeAny (model t.g.prog t.g.w) t.A (.forLoop tgt (.ref Ia) body [] t.env) (fun r s' => match r with | .ok f => Q f s' | .error e => cameBackBy (model t.g.prog t.g.w) t.A t.env noE e s') s' := by
    intro τσ I J x0 inner hk
    obtain ⟨⟨h0, hs⟩, turn, fin⟩ := hk
    generalize hX' : (⟨wr ++ X.Z, X.bx⟩ : Av) = X'
    have le' : X.Le X' := by subst hX'; exact ⟨fun a m => by simp [m], rfl⟩
    have mX' : ∀ a, a ∈ X'.Z ↔ a ∈ wr ∨ a ∈ X.Z := by subst hX'; intro a; simp
    have fpx : ∀ b ∈ fp, ∃ o, s'.heap.get? b = some o := itok.ex 0 _ itok.h0
    have stx : St t X σ s' := st₁.keep itok.step
    have wrB : ∀ b ∈ wr, t.g.B.get? b = none := fun b m => by
      cases q : t.g.B.get? b with
      | none => rfl
      | some o => have := st₁.wf.base _ _ q; rw [itok.fp.new b m] at this; cases this
    have oldwr : ∀ a o, s₁.heap.get? a = some o → a ∉ wr := fun a o e m => by rw [itok.fp.new a m] at e; cases e
    have st' : St t X' σ s' := st₁.lift itok.step le' (fun b m => ((mX' b).mp m).elim (fun q => .inr (itok.fp.new b q)) .inl)
      (fun a m => ((mX' a).mp m).elim (fun q => fpx a (itok.fp.sub a q)) (stx.wf.zin a)) fun a m => ((mX' a).mp m).elim (wrB a) (stx.wf.zB a)
    have up : Up X X' s'.heap := ⟨fun b m => ((mX' b).mp m).elim (fun q => .inr (itok.iters b q)) .inl, le'.bx⟩
    have old : ∀ b, b ∈ fp → (∃ o, s₁.heap.get? b = some o) → b ∉ X.Z ∧ ∃ vs, LstAt s₁.heap b vs ∨ TupAt s₁.heap b vs := fun b m ⟨o, e⟩ => itok.fp.old b m (oldwr b o e)
    have ap : Apart t X' fp σ s' := by
      obtain ⟨m₁, v₁⟩ := st₁.vars
      refine ⟨fun m => ?_, fun x c e m => ?_, fun b m i => ?_, fun m x p a vs n e w q => ?_⟩
      · obtain ⟨o, _, _, e, _⟩ := id v₁.ns
        obtain ⟨_, vs, h⟩ := old _ m ⟨o, e⟩
        exact h.elim (not_list_of_ns v₁.ns vs).1 (not_list_of_ns v₁.ns vs).2
      · obtain ⟨_, _, v, hc⟩ := st₁.core.Cb x c e
        obtain ⟨o, e', _⟩ := id hc
        obtain ⟨_, vs, h⟩ := old _ m ⟨o, e'⟩
        exact h.elim (not_list_of_cell hc vs).1 (not_list_of_cell hc vs).2
      · have i' := st.wf.ok.mem b (le'.inB.mpr i)
        exact (old b m (st₁.wf.zin b i')).1 i'
      · obtain ⟨⟨a', vs', w'⟩, _⟩ := v₁.own x p e
        have n' : s'.heap.Ns t.env.locals m₁ := v₁.ns.at' fun o e => itok.step.keep _ _ st₁.core.Lb e
        obtain rfl : m = m₁ := ns_inj n n'
        have : a = a' := by have := w.val.symm.trans w'.val; cases this; rfl
        subst this
        exact (old a q (st₁.wf.zin a w'.inZ)).1 w'.inZ
    have L0 : LI t X' fp wr Sx G (J 0 x0) 0 s' := by
      have q : St (withG (withK t fp s'.heap) G) X' σ s' := (st'.on ap).gOn fun d v g => (itok.hG d v g).up up
      exact ⟨q.sub hs, itok.h0, fun b m => (mX' b).mpr (.inl m), fun b m o k => by
        have := st₁.core.kept b o k
        rw [itok.fp.new b m] at this; cases this⟩
    refine forLoop_any (fun k s => ∃ i x X'', k = n - i ∧ i ≤ n ∧ I i x ∧ X'.Le X'' ∧ LI t X'' fp wr Sx G (J i x) i s) ?_ n ⟨0, x0, X', rfl, Nat.zero_le _, h0, .refl _, L0⟩
    rintro k s₂ ⟨i, x, X'', rfl, hi, hI, le2, L⟩
    by_cases hin : i < n
    · refine turn_ok ok itok hin L (turn i x hin hI) fun v s₄ hv => ?_
      refine wpAny_mono hv (fun _ s₅ h₅ => wpAny_mono h₅ (fun _ s₆ h₆ => ?_) fun _ _ e => e) fun _ _ e => e
      obtain ⟨σ', hb, L6, _⟩ := h₆
      have okx : (withG (withK t fp s₆.heap) G).Ok (⟨c.ks, inner i x⟩ : Cx).ks := withG_ok (withK_ok ok)
      refine blk_ok (t := withG (withK t fp s₆.heap) G) S okx hT hb s₆ _ L6.st (fun τ X3 s₇ hk le3 st₇ => ?_) fun d v s₇ hk hc hr => hR d v s₇ hk hc.off hr
      obtain ⟨y, hy, hsub⟩ := hk
      exact ⟨n - (i + 1), by omega, i + 1, y, X3, rfl, hin, hy, le2.trans le3, ⟨(st₇.gk (itok.ex _ _ L6.sx)).sub hsub, itok.frame _ _ _ L6.sx fun b m o e => st₇.core.kept b o (.inr ⟨m, e⟩), fun b m => le3.sub b (L6.wz b m), L6.wk⟩⟩
    · have hin' : i = n := by omega
      subst hin'
      refine itok.done L.sx fun h9 tk9 k9 => ?_
      generalize hX3 : (⟨X''.Z.filter fun a => !wr.contains a, X''.bx⟩ : Av) = X3
      have m3 : ∀ a, a ∈ X3.Z ↔ a ∈ X''.Z ∧ a ∉ wr := by subst hX3; intro a; simp
      have b3 : X3.bx = X''.bx := by subst hX3; rfl
      have zold : ∀ a ∈ X.Z, a ∉ wr := fun a m => let ⟨o, e⟩ := st₁.wf.zin a m; oldwr a o e
      have l3 : X.Le X3 := ⟨fun a m => (m3 a).mpr ⟨le2.sub a (le'.sub a m), zold a m⟩, le'.bx.trans (le2.bx.trans b3.symm)⟩
      have st9 := L.done itok.fp.sub itok.ex (s' := { s₂ with heap := h9, toks := tk9 }) (X3 := X3) (fun a o q e => k9 a o q e) ⟨_, _, rfl⟩ ⟨fun a m => ((m3 a).mp m).1, b3⟩ (st.core.le.trans l3)
        ⟨fun a i => l3.sub a (st.wf.ok.mem a (l3.inB.mpr i))⟩ (fun a m => ((m3 a).mp m).2) fun a m q => (m3 a).mpr ⟨m, q⟩
      exact hN _ _ _ (fin x hI) l3 st9
  cases sp with
  | none => exact False.elim hk0
  | some sp => cases sp with
    | loop τσ I J x0 inner => exact main τσ I J x0 inner hk0
    | loe τσ I J inner =>
      obtain ⟨⟨x0, h0⟩, hk0⟩ := hk0
      exact main τσ I J x0 inner ⟨h0, hk0⟩
    | _ => exact False.elim hk0
end
end Mine

namespace Mine

section
variable {t : Rt} {X : Av} {σ : Sto} {s : Shared}

theorem swaps_name {e : Expr} (h : notComp e = true) (x : Str) (p : Pos) (l : Nat) (env : Env) : swapsWith e (some (.Name x p)) l env = pure false := by
  cases e <;> first | rfl | exact noT h
theorem swaps_tuple (e : Expr) (ts : List Expr) (k : Nat) (p : Pos) (l : Nat) (env : Env) : swapsWith e (some (.Tuple ts k p)) l env = pure false := by
  cases e <;> rfl
theorem swaps_comp (elt : Expr) (g : List Comprehension) (scope : Scope) (p : Pos) (x : Str) (px : Pos) (l : Nat) (env : Env) : ∃ b, swapsWith (.ListComp elt g scope p) (some (.Name x px)) l env = pure b := ⟨_, rfl⟩
theorem swaps_sub (e o i : Expr) (p : Pos) (l : Nat) (env : Env) : swapsWith e (some (.Subscript o i p)) l env = pure false := by
  cases e <;> rfl

theorem swapped_two {x y : Str} {px py : Pos} {vs : List Expr} {k k' : Nat} {p p' : Pos} {env : Env} (h : vs.all (constantsAlone 8) = false) :
    swappedStores [.Tuple [.Name x px, .Name y py] k p] (.Tuple vs k' p') env = pure none ∨ swappedStores [.Tuple [.Name x px, .Name y py] k p] (.Tuple vs k' p') env = pure (some [x, y]) := by
  unfold swappedStores
  dsimp only
  split
  · exact .inl rfl
  · split
    · exact .inl rfl
    · split
      · exact .inl rfl
      · split
        · exact .inl rfl
        · split
          · rename_i hh; rw [h] at hh; cases hh
          · rename_i h1 h2 h3 h4 h5
            refine .inr ?_
            simp only [List.filterMap_cons, List.filterMap_nil] at h3 ⊢
            split at h3
            · exfalso; revert h3; split <;> simp
            · split at h3
              · exfalso; revert h3; simp
              · rename_i e1 _ _ e2
                split at e1
                · split at e2
                  · cases e1; cases e2
                    rename_i c1 c2
                    first
                      | rfl
                      | (simp only [c1, c2, if_true])
                  · cases e2
                · cases e1
theorem swapped_many {ts vs : List Expr} {k k' : Nat} {p p' : Pos} {env : Env} (h : 4 ≤ ts.length) : swappedStores [.Tuple ts k p] (.Tuple vs k' p') env = pure none := by
  unfold swappedStores
  dsimp only
  rw [if_pos]
  have h1 : (ts.length == 2) = false := by rw [beq_eq_false_iff_ne]; omega
  have h2 : (ts.length == 3) = false := by rw [beq_eq_false_iff_ne]; omega
  rw [h1, h2]; rfl
theorem swapped_other {ts : List Expr} {e : Expr} {k : Nat} {p : Pos} {env : Env} (h : ∀ vs k' p', e ≠ .Tuple vs k' p') : swappedStores [.Tuple ts k p] e env = pure none := by
  cases e <;> first | rfl | exact absurd rfl (h _ _ _)

theorem mapSeq_list (f : Array Value → Array Value) (xs : Array Value) (n : Nat) : ∃ n', Obj.mapSeq f { cls := .type "list", data := .seq xs n } = { cls := .type "list", data := .seq (f xs) n' } := ⟨_, rfl⟩

theorem list_set_plain {prog w A E} {l : Addr} {items : List Value} {k : Int} {u : Tok} {v : Value} {s : Shared} {Q : Unit → Shared → Prop} (hl : LstAt s.heap l items)
    (h0 : 0 ≤ k) (hfit : k < 2 ^ 63) (hn : k < items.length)
    (hQ : ∀ h', LstAt h' l (items.set k.toNat v) → Heap.SameBut l s.heap h' → Q () { s with heap := h' }) :
    wpAny (model prog w) A (setItem (.ref l) (.int k u) v) Q E s := by
  obtain ⟨ne, ho⟩ := hl
  have hlist : s.heap.IsList l items.toArray := ⟨_, ho, rfl, ne, rfl⟩
  unfold setItem
  try with_reducible refine wpAny_holding ?_
  first | refine wpAny_bind (wpAny_pure ?_) | skip
  refine wpAny_bind (wpAny_sequenceKey hlist.typeIs (by decide) ?_)
  refine wpAny_bind (wpAny_callSpecial?_slot (name := Str.ofString "__setitem__") hlist.typeIs slot_list_setitem
    (wpAny_call_entry slot_list_setitem hlist.typeIs entry_list_setitem ?_ (args_list_setitem _ _ _)))
  show wpAny _ _ (Builtin.List.listSubscript? (.int k u) >>= _) _ _ s
  refine wpAny_bind (wpAny_listSubscript_int (fitsIndex_of h0 hfit) ?_)
  clear hfit
  obtain ⟨j, rfl⟩ := Int.eq_ofNat_of_zero_le h0
  have hj : j < items.toArray.size := by simp; omega
  have hx' : items.toArray[j]? = some items.toArray[j] := Array.getElem?_eq_getElem hj
  show wpAny _ _ ((seqItemAt l j >>= fun r => pure (r.map (j, ·))) >>= _) _ _ s
  refine wpAny_bind (wpAny_bind (wpAny_seqItemAt ho rfl (wpAny_pure ?_)))
  rw [hx']
  show wpAny _ _ (setSeqItemAt l j v >>= _) _ _ s
  obtain ⟨n', e⟩ := mapSeq_list (·.setIfInBounds j v) items.toArray ne
  have e2 : items.toArray.setIfInBounds j v = (items.set j v).toArray := by simp
  rw [e2] at e
  have hfin : LstAt (s.heap.update l (Obj.mapSeq (·.setIfInBounds j v))) l (items.set j v) :=
    ⟨n', by rw [Heap.get?_update_self _ ho (by rw [e]; rfl), e]⟩
  refine wpAny_bind (wpAny_setSeqItemAt ho rfl ?_)
  first
    | exact wpAny_bind (wpAny_pure (wpAny_pure ⟨.none, rfl, wpAny_pure (hQ _ hfin (Heap.SameBut.update ..))⟩))
    | exact wpAny_pure ⟨.none, rfl, wpAny_pure (hQ _ hfin (Heap.SameBut.update ..))⟩

theorem list_pop_plain {prog w A E} {l : Addr} {items : List Value} {s : Shared} {Q : Value → Shared → Prop} (hl : LstAt s.heap l items) (hne : items ≠ []) (hsz : items.length ≤ sizeLine)
    (hQ : ∀ h' v, LstAt h' l items.dropLast → Heap.SameBut l s.heap h' → Q v { s with heap := h' }) :
    wpAny (model prog w) A (call (.builtin "list.pop") [.ref l]) Q E s := by
  obtain ⟨ne, ho⟩ := hl
  have hpos : 0 < items.length := List.length_pos_iff.mpr hne
  have hy : items.toArray[items.toArray.size - 1]? = some (items.getLast hne) := by
    simp [List.getLast_eq_getElem]
  refine call_meets F.slot_list_pop ⟨_, ho, rfl⟩ F.entry_list_pop (F.args_list_pop_1 _) (MeetsSeq.list_pop_last l items.toArray ne _ hy (by simpa using hsz)) ⟨ho, ?_⟩
  refine hQ _ _ ?_ (Heap.SameBut.update ..)
  obtain ⟨n', e⟩ := mapSeq_list (fun xs => xs.eraseIdxIfInBounds (items.toArray.size - 1)) items.toArray ne
  have e2 : items.toArray.eraseIdxIfInBounds (items.toArray.size - 1) = items.dropLast.toArray := by
    have h2 : items.length - 1 < items.length := by omega
    simp only [List.size_toArray, Array.eraseIdxIfInBounds, h2, dif_pos]
    rw [List.eraseIdx_toArray]
    simp [List.eraseIdx_length_sub_one]
  rw [e2] at e
  exact ⟨n', by rw [Heap.get?_update_self _ ho (by rw [e]; rfl), e]⟩
end
end Mine

namespace Mine

theorem LR.dropLast {α : Type} {R : α → Value → Prop} {l : List α} {vs : List Value} (h : LR R l vs) : LR R l.dropLast vs.dropLast := by
  rw [List.dropLast_eq_take, List.dropLast_eq_take, h.length]; exact h.take _
theorem LR.nil_iff {α : Type} {R : α → Value → Prop} {l : List α} {vs : List Value} (h : LR R l vs) : vs = [] ↔ l = [] := by
  rw [← List.length_eq_zero_iff, ← List.length_eq_zero_iff, h.length]

section
variable {t : Rt} {X : Av} {σ : Sto} {s : Shared}

theorem isNone_of {x : Str} (h : (ownIs σ x).isNone = true) : ownIs σ x = none := by simpa using h

theorem kind_of_setVar {c : Cx} {x : Str} {v : V} {k : Sto → Prop} (h : setVar c σ x v k) : (c.ks.lookup x = some .local ∨ c.ks.lookup x = some .cell) ∧ ownIs σ x = none ∧ k { σ with ρ := (x, v) :: σ.ρ } := by
  unfold setVar at h
  split at h
  · rename_i hc
    simp only [Bool.and_eq_true, Bool.or_eq_true] at hc
    exact ⟨hc.1.imp isLoc_iff isCell_iff, isNone_of hc.2, h⟩
  · exact h.elim

theorem St.own_write (st : St t X σ s) {m : Str → Option Value} {x : Str} {p p' : List Rat} {a : Addr} {vs vs' : List Value} {h' : Heap} (hn : s.heap.Ns t.env.locals m) (ho : σ.own = some (x, p)) (w : OwnAt t X s m x p a vs)
    (hl : LstAt h' a vs') (hs : Heap.SameBut a s.heap h') (hr : LR (RRat X s.heap) p' vs') : St t X { σ with own := some (x, p') } { s with heap := h' } := by
  have c : Chg t X [a] s { s with heap := h' } := {
    keep := fun b o q e => hs.extBut b o (by simpa using q) e
    rest := ⟨_, s.toks, rfl⟩
    K := by simpa using w.K
    B := by simpa using st.wf.zB a w.inZ
    nB := by simpa using w.nB
    ex := fun b hb _ => by simp only [List.mem_singleton] at hb; subst hb; obtain ⟨n, e⟩ := hl; exact ⟨_, e⟩
    sit := by simpa using .inl w.inZ
    cell := fun b hb y e => by
      simp only [List.mem_singleton] at hb; subst hb
      obtain ⟨_, _, v, hv⟩ := st.core.Cb y _ e
      exact ((not_list_of_cell hv vs).1 w.at_).elim }
  obtain ⟨m', v⟩ := st.vars
  obtain rfl : m = m' := ns_inj hn v.ns
  refine ⟨st.core.chg c, m, hn.at' fun o e => c.keep _ _ (by simpa using (w.ne_L hn).symm) e, fun y d e => ?_, fun y q e => ?_⟩
  · obtain ⟨u, hu, ru⟩ := v.vals y d e
    refine ⟨u, hu.imp id fun ⟨b, cc, i, o, j, l⟩ => ⟨b, cc, i, o, c.keep _ _ ?_ j, l⟩, ru.sit c.sits⟩
    simp only [List.mem_singleton]
    rintro rfl
    exact (not_list_of_cell ⟨o, j, l⟩ vs).1 w.at_
  · cases e
    exact ⟨⟨a, vs', ⟨w.kind, w.val, w.inZ, w.out, w.nB, hl, hr.mono fun _ _ r => r.sit c.sits, w.K⟩⟩, (v.own x p ho).2⟩

theorem own_get {x : Str} {q : List Rat} (st : St t X σ s) (ho : ownIs σ x = some q) : ∃ m a vs, s.heap.Ns t.env.locals m ∧ σ.own = some (x, q) ∧ OwnAt t X s m x q a vs := by
  obtain ⟨m, hn, hv, hw⟩ := st.vars
  have ho' := ownIs_eq ho
  obtain ⟨⟨a, vs, w⟩, z⟩ := hw _ _ ho'
  exact ⟨m, a, vs, hn, ho', w⟩

/-- what is fresh is made its own -/
theorem fresh_own {s₁ : Shared} (st₁ : St t X σ s₁) (p : Stp X s₁ s) {l : List Rat} {v : Value} (r : Rep X s.heap (.poly l) v) (hf : ∀ a, v = .ref a → s₁.heap.get? a = none) :
    ∃ a vs X', v = .ref a ∧ X.Le X' ∧ St t X' σ s ∧ a ∈ X'.Z ∧ a ∉ t.X0.Z ∧ ¬ X'.inB a ∧ LstAt s.heap a vs ∧ LR (RRat X' s.heap) l vs ∧ (∀ o, ¬ t.K a o) ∧ ∀ {d : V} {u : Value}, Rep X s₁.heap d u → Rep X' s.heap d u := by
  obtain ⟨a, vs, rfl, za, hl, hr⟩ := r
  have fr := hf a rfl
  have st := st₁.keep p
  have le : X.Le (X.more a) := X.le_more a
  have nB : ¬ X.inB a := fun i => za (st.wf.ok.mem a i)
  refine ⟨a, vs, X.more a, rfl, le, st₁.lift p le (fun b m => (List.mem_cons.mp m).elim (fun e => .inr (by rw [e]; exact fr)) .inl) (fun b m => (List.mem_cons.mp m).elim (fun e => by rw [e]; obtain ⟨n, q⟩ := hl; exact ⟨_, q⟩) (st.wf.zin b)) (fun b m => (List.mem_cons.mp m).elim (fun e => ?_) (st.wf.zB b)),
    List.mem_cons_self .., fun m => za (st.core.le.sub a m), fun i => nB (le.inB.mpr i), hl, hr.mono fun q v x => ?_, fun o k => ?_, fun {d u} r => ?_⟩
  · subst e
    cases q : t.g.B.get? b with
    | none => rfl
    | some o => have := st₁.wf.base _ _ q; rw [fr] at this; cases this
  · obtain ⟨b, us, rfl, zb, tb, rb⟩ := x
    refine ⟨b, us, rfl, fun m => (List.mem_cons.mp m).elim (fun e => ?_) zb, tb, rb⟩
    subst e
    obtain ⟨n, e⟩ := hl; obtain ⟨n', e'⟩ := tb
    rw [e] at e'; simp at e'
  · have := st₁.core.kept a o k
    rw [fr] at this; cases this
  · have up : Up X (X.more a) s₁.heap := ⟨fun b m => (List.mem_cons.mp m).elim (fun e => .inr fun vs => ⟨fun ⟨n, q⟩ => (by rw [e, fr] at q; cases q), fun ⟨n, q⟩ => (by rw [e, fr] at q; cases q)⟩) .inl, rfl⟩
    exact (r.up up).keep ⟨fun b i => le.sub b (st.wf.ok.mem b (le.inB.mpr i))⟩ (p.av le.bx)

theorem St.freeze (x0 : t.X0.Ok) (st : St t X σ s) : St t t.X0 (freeze σ) s := by
  obtain ⟨m, hn, hv, ho⟩ := st.vars
  refine ⟨st.core.down x0, m, hn, fun x d e => ?_, fun x p e => ?_⟩
  · unfold Mine.freeze at e
    split at e
    · rename_i y p hown
      simp only [List.lookup_cons] at e
      split at e
      · rename_i q; obtain rfl := eq_of_beq q
        cases e
        obtain ⟨⟨a, vs, w⟩, _⟩ := ho _ _ hown
        exact ⟨.ref a, .inl ⟨w.kind, w.val⟩, ⟨a, vs, rfl, w.out, w.at_, w.items.mono fun _ _ r => RRat.le st.core.le r⟩⟩
      · obtain ⟨v, hh, r⟩ := hv x d e
        exact ⟨v, hh, r.le st.core.le⟩
    · obtain ⟨v, hh, r⟩ := hv x d e
      exact ⟨v, hh, r.le st.core.le⟩
  · unfold Mine.freeze at e
    split at e
    · cases e
    · rename_i h; rw [h] at e; cases e

theorem load_held (ok : t.Ok c) {m : Str → Option Value} (hn : s.heap.Ns t.env.locals m) {x : Str} {v : Value} {Q : Value → Shared → Prop} (h : Held t s m x v) (hQ : Q v s) :
    wpAny (model t.g.prog t.g.w) t.A (loadName t.env x) Q noE s := by
  rcases h with ⟨hk, hv⟩ | ⟨hk, c, hc, hv⟩
  · exact wpAny_loadName_local ok.kind hk hn hv hQ
  · exact wpAny_loadName_cell ok.kind hk hc hv hQ

theorem names_cons {e : Expr} {ts : List Expr} {xs : List Str} (h : namesOf (e :: ts) = some xs) : ∃ x p ys, e = .Name x p ∧ namesOf ts = some ys ∧ xs = x :: ys := by
  replace h : (match vName e with | some (x, _) => (match namesOf ts with | some l => some (x :: l) | none => none) | none => none) = some xs := h
  cases e1 : vName e with
  | none => rw [e1] at h; exact no h
  | some z =>
    obtain ⟨x, p⟩ := z
    rw [e1] at h
    replace h : (match namesOf ts with | some l => some (x :: l) | none => none) = some xs := h
    cases e2 : namesOf ts with
    | none => rw [e2] at h; exact no h
    | some ys => rw [e2] at h; exact ⟨x, p, ys, vName_eq e1, rfl, (Option.some.inj h).symm⟩
/-- names are stored one by one -/
theorem stores_ok {c : Cx} (ok : t.Ok c.ks) {kN : Sto → Prop} {ts : List Expr} : ∀ {xs : List Str} {ds : List V} {vs : List Value} {σ : Sto} {s : Shared}, namesOf ts = some xs → (∀ x ∈ xs, isLoc c x = true ∧ (ownIs σ x).isNone = true) → setVars σ xs ds kN → LR (Rep X s.heap) ds vs → St t X σ s →
    wpAny (model t.g.prog t.g.w) t.A (assignInOrder ((assignEach ts t.env).map (·.2)) vs) (fun _ s' => ∃ σ', kN σ' ∧ St t X σ' s') noE s := by
  induction ts with
  | nil =>
    intro xs ds vs σ s hn hx hs hr st
    obtain rfl := Option.some.inj hn
    cases ds with
    | nil => rw [hr.none]; exact wpAny_pure ⟨σ, hs, st⟩
    | cons _ _ => exact False.elim hs
  | cons e ts ih =>
    intro xs ds vs σ s hn hx hs hr st
    obtain ⟨x, p, ys, rfl, hq, rfl⟩ := names_cons hn
    cases ds with
    | nil => exact False.elim hs
    | cons d ds =>
      obtain ⟨v, vs, rfl, r1, r2⟩ := hr.cons
      show wpAny _ _ (do holding vs (assign (.Name x p) t.env v); assignInOrder ((assignEach ts t.env).map (·.2)) vs) _ _ _
      obtain ⟨h1, h2⟩ := hx x (List.mem_cons_self ..)
      exact wpAny_bind (wpAny_holding (wpAny_assign_Name (store_ok ok st (.inl (isLoc_iff h1)) (isNone_of h2) r1 fun s' st' k =>
        ih (σ := { σ with ρ := (x, d) :: σ.ρ }) hq (fun y hy => hx y (List.mem_cons_of_mem _ hy)) hs (r2.mono fun _ _ r => r.sit (st.sits fun a o n1 n2 e => k a o n1 (.inl (isLoc_iff h1)) e)) st')))

theorem names_len {ts : List Expr} {xs : List Str} (h : namesOf ts = some xs) : xs.length = ts.length := by
  induction ts generalizing xs with
  | nil => obtain rfl := Option.some.inj h; rfl
  | cons e ts ih =>
    obtain ⟨x, p, ys, rfl, hq, rfl⟩ := names_cons h
    exact congrArg (· + 1) (ih hq)
theorem names_each {env : Env} {ts : List Expr} {xs : List Str} (h : namesOf ts = some xs) : (assignEach ts env).findIdx? (·.1) = none ∧ (assignEach ts env).length = ts.length := by
  induction ts generalizing xs with
  | nil => exact ⟨rfl, rfl⟩
  | cons e ts ih =>
    obtain ⟨x, p, ys, rfl, hq, rfl⟩ := names_cons h
    obtain ⟨h1, h2⟩ := ih hq
    refine ⟨?_, congrArg (· + 1) h2⟩
    show ((false, assign (.Name x p) env) :: assignEach ts env).findIdx? (·.1) = none
    rw [List.findIdx?_cons, h1]; rfl

/-- two names at once: in this order or in the other -/
theorem two_at_once (hh : t.A.handled = none) {x y : Str} {px py p p' pos : Pos} {k k' : Nat} {e₁ e₂ : Expr} {Q : Flow → Shared → Prop} (hc : [e₁, e₂].all (constantsAlone 8) = false)
    (h : wpAny (model t.g.prog t.g.w) t.A (eval (.Tuple [e₁, e₂] k' p') t.env) (fun v s₃ => ∃ T va vb, v = .ref T ∧ TupAt s₃.heap T [va, vb] ∧ ∀ h', (∀ a o, s₃.heap.get? a = some o → h'.get? a = some o) →
      wpAny (model t.g.prog t.g.w) t.A (storeName t.env x va) (fun _ s₄ => wpAny (model t.g.prog t.g.w) t.A (storeName t.env y vb) (fun _ => Q .next) noE s₄) noE { s₃ with heap := h' } ∧
      wpAny (model t.g.prog t.g.w) t.A (storeName t.env y vb) (fun _ s₄ => wpAny (model t.g.prog t.g.w) t.A (storeName t.env x va) (fun _ => Q .next) noE s₄) noE { s₃ with heap := h' }) noE s) :
    wpAny (model t.g.prog t.g.w) t.A (exec (.Assign [.Tuple [.Name x px, .Name y py] k p] (.Tuple [e₁, e₂] k' p') pos) t.env) Q noE s := by
  have all : ∀ {s : Shared} {h' : Heap}, Heap.ExtBut s.heap.objs.size s.heap h' → ∀ a o, s.heap.get? a = some o → h'.get? a = some o := fun hx a o e => hx a o (Nat.ne_of_lt (Heap.lt_size e)) e
  rcases swapped_two (x := x) (y := y) (px := px) (py := py) (k := k) (p := p) (k' := k') (p' := p') (env := t.env) hc with hw | hw
  · refine Assign_Tuple (wpAny_mono h (fun v s₃ h₃ => ?_) fun _ _ e => e) rfl hw
    obtain ⟨T, va, vb, rfl, hT, h₃⟩ := h₃
    have hT' : s₃.heap.IsTuple T #[va, vb] := let ⟨n, e⟩ := hT; ⟨_, e, rfl, n, rfl⟩
    refine wpAny_assign_Tuple hh hT' rfl rfl fun h' hx => ?_
    show wpAny _ _ (do holding [vb] (assign (.Name x px) t.env va); do holding [] (assign (.Name y py) t.env vb); pure ()) _ _ _
    exact wpAny_bind (wpAny_holding (wpAny_assign_Name (wpAny_mono (h₃ h' (all hx)).1 (fun _ s₄ h₄ => wpAny_bind (wpAny_holding (wpAny_assign_Name (wpAny_mono h₄ (fun _ s₅ h₅ => wpAny_pure h₅) fun _ _ e => e)))) fun _ _ e => e)))
  · refine Assign_Tuple_swapped (names := [x, y]) (wpAny_mono h (fun v s₃ h₃ => ?_) fun _ _ e => e) rfl hw
    obtain ⟨T, va, vb, rfl, hT, h₃⟩ := h₃
    have hT' : s₃.heap.IsTuple T #[va, vb] := let ⟨n, e⟩ := hT; ⟨_, e, rfl, n, rfl⟩
    refine wpAny_unpackItems_tuple (items := #[va, vb]) hh hT' fun h' hx => ?_
    show wpAny _ _ (do holding [va] (bindName t.env y vb); do holding [] (bindName t.env x va); pure ()) _ _ _
    exact wpAny_bind (wpAny_holding (wpAny_bindName (wpAny_mono (h₃ h' (all hx)).2 (fun _ s₄ h₄ => wpAny_bind (wpAny_holding (wpAny_bindName (wpAny_mono h₄ (fun _ s₅ h₅ => wpAny_pure h₅) fun _ _ e => e)))) fun _ _ e => e)))
end
end Mine

namespace Mine

section
variable {t : Rt} {X : Av} {σ : Sto} {s : Shared}

theorem setOwn_at {x : Str} {v : V} {k : Sto → Prop} (h : setOwn x σ v k) : ∃ p, v = .poly p ∧ k { ρ := drop x σ.ρ, own := some (x, p) } := by
  unfold setOwn at h
  split at h
  · rename_i e; exact ⟨_, vPoly_eq e, h⟩
  · exact h.elim

theorem assign_comp {T : Tab} {r : EVs} (S : Snd T r) {c : Cx} (ok : t.Ok c.ks) (hT : TabOk t.g t.n T) {x : Str} {px pos : Pos} {elt tgt iter : Expr} {ifs : List Expr} {scope : Scope} {line : Nat} {p : Pos} {kR : V → Prop} {kN : Sto → Prop}
    (h : compW r c σ elt tgt iter ifs scope line fun v => setVar c σ x v kN) : ExOk t X σ (.Assign [.Name x px] (.ListComp elt [⟨tgt, iter, ifs, 0⟩] scope p) pos) kR kN := by
  intro s Q st hN hR
  obtain ⟨b, hb⟩ := swaps_comp elt [⟨tgt, iter, ifs, 0⟩] scope p x px pos.line t.env
  cases b with
  | false =>
    refine wpAny_Assign_Name (comp_ev S ok hT h s _ st fun d v s₁ hk p₁ r₁ => ?_) hb
    obtain ⟨h1, h2, h3⟩ := kind_of_setVar hk
    exact store_ok ok (st.keep p₁) h1 h2 r₁ fun s' st' _ => hN _ _ _ h3 (.refl _) st'
  | true =>
    rw [exec_Assign_Name_used x px _ pos hb]
    refine wpAny_bind (wpAny_standAt (wpAny_bind ?_))
    show wpAny _ _ (do let _ ← comprehension (.ListComp elt [⟨tgt, iter, ifs, 0⟩] scope p) scope t.env _ (newList []) false (eval iter t.env) (some (assign (.Name x px) t.env))) _ _ s
    refine wpAny_bind (comp_any S ok hT h st fun R D C h' tk m' hk p₁ hr hn hCD hC hi => ?_)
    obtain ⟨h1, h2, h3⟩ := kind_of_setVar hk
    have st₁ := st.keep p₁
    have cL : C ≠ t.env.locals := by
      rintro rfl
      obtain ⟨m, v⟩ := st.vars
      obtain ⟨o, _, _, e, _⟩ := id v.ns
      rw [hC] at e; cases e
    have cC : ∀ y c, t.env.cells.lookup y = some c → C ≠ c := by
      rintro y c e rfl
      obtain ⟨_, _, v, o, e', _⟩ := st.core.Cb y C e
      rw [hC] at e'; cases e'
    refine wpAny_assign_Name (store_ok ok st₁ h1 h2 hr fun s' st' k => ?_)
    refine ⟨m', hn.at' fun o e => k C o cL (.inr cC) e, fun h'' hs => wpAny_pure (wpAny_pure (hN _ _ _ h3 (.refl _) ?_))⟩
    have nl : ∀ vs, ¬ LstAt s'.heap C vs ∧ ¬ TupAt s'.heap C vs := not_list_of_ns (hn.at' fun o e => k C o cL (.inr cC) e)
    refine st'.chg (W := [C]) (s' := { s' with heap := h'' }) {
      keep := fun a o q e => hs.extBut a o (by simpa using q) e
      rest := ⟨_, s'.toks, rfl⟩
      K := fun b hb o kk => by
        simp only [List.mem_singleton] at hb; subst hb
        have := st.core.kept b o kk
        rw [hC] at this; cases this
      B := fun b hb => by
        simp only [List.mem_singleton] at hb; subst hb
        cases q : t.g.B.get? b with
        | none => rfl
        | some o => have := st.wf.base _ _ q; rw [hC] at this; cases this
      nB := by simpa using hi
      ex := fun b hb m => by
        simp only [List.mem_singleton] at hb; subst hb
        obtain ⟨o, e⟩ := st.wf.zin b m
        rw [hC] at e; cases e
      sit := by simpa using .inr nl
      cell := fun b hb y e => by simp only [List.mem_singleton] at hb; subst hb; exact (cC y b e rfl).elim } (by simpa using cL.symm) (fun y c e => by simpa using (cC y c e).symm) fun m x p a vs _ _ w => ?_
    simp only [List.mem_singleton]
    rintro rfl
    exact (nl vs).1 w.at_

theorem call_method {o : Expr} {name : Str} {apos pos : Pos} {T id : String} {args : List Expr} {Q : Value → Shared → Prop} (hbase : attributeBase o name t.env (eval o t.env) = eval o t.env) (hline : (apos.endLine == pos.line) = true)
    (hlen : args.length ≤ 1) (hst : args.all noStar = true)
    (pa : PlainAttrs T) (slot : Slot T name id) (hty : typeOf (.builtin id) = pure (.type "method_descriptor"))
    (h : wpAny (model t.g.prog t.g.w) t.A (eval o t.env) (fun ov s₁ => s₁.TypeIs ov T ∧ (∀ a, ov = .ref a → ∃ ob, s₁.heap.get? a = some ob ∧ ob.dict = none) ∧
      wpAny (model t.g.prog t.g.w) t.A (callWith pos (.builtin id) [ov] (backTo pos (starEach args t.env)) []) Q noE s₁) noE s) :
    wpAny (model t.g.prog t.g.w) t.A (eval (.Call (.Attribute o name apos) args [] pos) t.env) Q noE s := by
  refine wpAny_Call_method_lateS hbase ?_ hline (wpAny_mono h (fun ov s₁ h₁ => ⟨T, id, pa, slot, hty, h₁.1, h₁.2.1, h₁.2.2⟩) fun _ _ e => e)
  cases args with
  | nil => rfl
  | cons e r =>
    have hr : r = [] := List.eq_nil_of_length_eq_zero (Nat.le_zero.mp (Nat.le_of_succ_le_succ hlen))
    subst hr
    simp only [List.all_cons, Bool.and_eq_true] at hst
    rw [starEach_c hst.1]; rfl

theorem both_plain {ks : List (Str × NameKind)} (ok : t.Ok ks) (st : St t X σ s) {x y : Str} (c1 : ks.lookup x = some .local) (c2 : ks.lookup y = some .local) (xy : x ≠ y) (n1 : ownIs σ x = none) (n2 : ownIs σ y = none) {a b : V} {va vb : Value}
    (ra : Rep X s.heap a va) (rb : Rep X s.heap b vb) {Q : Shared → Prop} (hQ : ∀ s', St t X { σ with ρ := (y, b) :: (x, a) :: σ.ρ } s' → Q s') :
    wpAny (model t.g.prog t.g.w) t.A (storeName t.env x va) (fun _ s₄ => wpAny (model t.g.prog t.g.w) t.A (storeName t.env y vb) (fun _ => Q) noE s₄) noE s ∧
      wpAny (model t.g.prog t.g.w) t.A (storeName t.env y vb) (fun _ s₄ => wpAny (model t.g.prog t.g.w) t.A (storeName t.env x va) (fun _ => Q) noE s₄) noE s := by
  constructor
  · refine store_ok ok st (.inl c1) n1 ra fun s₁ st₁ k => ?_
    exact store_ok ok st₁ (.inl c2) n2 (rb.sit (st.sits fun a o h1 h2 e => k a o h1 (.inl c1) e)) fun s₂ st₂ _ => hQ _ st₂
  · refine store_ok ok st (.inl c2) n2 rb fun s₁ st₁ k => ?_
    refine store_ok ok st₁ (.inl c1) n1 (ra.sit (st.sits fun a o h1 h2 e => k a o h1 (.inl c2) e)) fun s₂ st₂ _ => hQ _ (st₂.weak' (fun z d e => ?_) rfl)
    simp only [List.lookup_cons] at e ⊢
    by_cases hz : z = y
    · subst hz
      have : (z == x) = false := beq_eq_false_iff_ne.mpr (Ne.symm xy)
      simpa [this] using e
    · have : (z == y) = false := beq_eq_false_iff_ne.mpr hz
      simpa [this] using e

theorem both_own {ks : List (Str × NameKind)} (ok : t.Ok ks) (st : St t X σ s) {x y : Str} (c1 : ks.lookup x = some .local) (c2 : ks.lookup y = some .local) (xy : x ≠ y) (n1 : ownIs σ x = none) {a : V} {va : Value} {p : List Rat} {ad : Addr} {vs : List Value}
    (ra : Rep X s.heap a va) (hZ : ad ∈ X.Z) (hO : ad ∉ t.X0.Z) (nB : ¬ X.inB ad) (hl : LstAt s.heap ad vs) (hr : LR (RRat X s.heap) p vs) (hK : ∀ o, ¬ t.K ad o) {Q : Shared → Prop}
    (hQ : ∀ s', St t X { ρ := drop y ((x, a) :: σ.ρ), own := some (y, p) } s' → Q s') :
    wpAny (model t.g.prog t.g.w) t.A (storeName t.env x va) (fun _ s₄ => wpAny (model t.g.prog t.g.w) t.A (storeName t.env y (.ref ad)) (fun _ => Q) noE s₄) noE s ∧
      wpAny (model t.g.prog t.g.w) t.A (storeName t.env y (.ref ad)) (fun _ s₄ => wpAny (model t.g.prog t.g.w) t.A (storeName t.env x va) (fun _ => Q) noE s₄) noE s := by
  constructor
  · refine store_ok ok st (.inl c1) n1 ra fun s₁ st₁ k => ?_
    have aL : ad ≠ t.env.locals := by
      rintro rfl
      obtain ⟨m, v⟩ := st.vars
      exact (not_list_of_ns v.ns vs).1 hl
    have sit : Sits X s.heap s₁.heap := st.sits fun a o h1 h2 e => k a o h1 (.inl c1) e
    refine own_store ok st₁ c2 hZ hO nB (let ⟨n, e⟩ := hl; ⟨n, k _ _ aL (.inl c1) e⟩) (hr.mono fun _ _ r => r.sit sit) hK fun s₂ st₂ _ => hQ _ st₂
  · refine own_store ok st c2 hZ hO nB hl hr hK fun s₁ st₁ k => ?_
    have n1' : ownIs { ρ := drop y σ.ρ, own := some (y, p) } x = none := by
      have : (y == x) = false := beq_eq_false_iff_ne.mpr (Ne.symm xy)
      simp [ownIs, this]
    refine store_ok ok st₁ (.inl c1) n1' (ra.sit (st.sits fun a o h1 h2 e => k a o h1 e)) fun s₂ st₂ _ => hQ _ (st₂.weak' (fun z d e => ?_) rfl)
    rw [lookup_drop] at e
    simp only [List.lookup_cons] at e ⊢
    rw [lookup_drop]
    split at e
    · cases e
    · rename_i h; rw [if_neg h]; exact e

theorem assign_two {T : Tab} {r : EVs} (S : Snd T r) {c : Cx} (ok : t.Ok c.ks) (hT : TabOk t.g t.n T) {kR : V → Prop} {kN : Sto → Prop} {x y : Str} {px py p p' pos : Pos} {k k' : Nat} {e₁ e₂ : Expr}
    (h : twoW r c σ x y e₁ e₂ pos.line kN) : ExOk t X σ (.Assign [.Tuple [.Name x px, .Name y py] k p] (.Tuple [e₁, e₂] k' p') pos) kR kN := by
  have hev : ∀ e k, r.ev c σ e k → EvOk t X σ e k := fun e k h => S.ev t c σ e k X ok hT h
  have nst : ∀ {e k}, r.ev c σ e k → ∀ x p, e ≠ .Starred x p := fun hk x p q => S.star c σ x p _ (q ▸ hk)
  intro s Q st hN hR
  unfold twoW at h
  split at h
  · rename_i hc
    simp only [Bool.and_eq_true, Bool.not_eq_true'] at hc
    obtain ⟨⟨⟨⟨⟨c1, c2⟩, c3⟩, c4⟩, c5⟩, c6⟩ := hc
    have xy : x ≠ y := by simpa using c3
    split at h
    · split at h
      · rename_i hfr
        refine two_at_once ok.room.handled c6 (Tuple_ (wpAny_items_cons (hev _ _ h s _ st fun d va s₁ hk p₁ r₁ => ?_) (starEach_cons (nst h))))
        refine wpAny_items_cons (S.fr t c σ _ _ X ok hT hfr hk s₁ _ (st.keep p₁) fun d' vb s₂ s₃ hk' p₂ p₃ r₃ hf => wpAny_items_nil (wpAny_newObj_type ?_ (by show _ ≤ sizeLine; simp; decide))) (starEach_cons (nst hk))
        obtain ⟨p, rfl, hk'⟩ := setOwn_at hk'
        have q4 : Stp X s₃ { s₃ with heap := s₃.heap.push { cls := .type "tuple", data := .seq [va, vb].toArray } } := Stp.push (tk := s₃.toks)
        refine ⟨_, va, vb, rfl, .push, fun h' hh => ?_⟩
        have q5 : Stp X { s₃ with heap := s₃.heap.push { cls := .type "tuple", data := .seq [va, vb].toArray } } { s₃ with heap := h' } := Stp.ext (tk := s₃.toks) hh
        have st₂ := (st.keep p₁).keep p₂
        have p5 := (p₃.trans q4).trans q5
        obtain ⟨a, vs, X', rfl, le, st', hZ, hO, nB, hl, hr, hK, rp⟩ := fresh_own st₂ p5 ((r₃.keep st.wf.ok q4).keep st.wf.ok q5) hf
        exact both_own ok st' (isLoc_iff c1) (isLoc_iff c2) xy (isNone_of c4) (rp (r₁.keep st.wf.ok p₂)) hZ hO nB hl hr hK fun s' st'' => hN _ _ _ hk' le st''
      · exact h.elim
    · refine two_at_once ok.room.handled c6 (Tuple_ (wpAny_items_cons (hev _ _ h s _ st fun d va s₁ hk p₁ r₁ => ?_) (starEach_cons (nst h))))
      refine wpAny_items_cons (hev _ _ hk s₁ _ (st.keep p₁) fun d' vb s₃ hk' p₃ r₃ => wpAny_items_nil (wpAny_newObj_type ?_ (by show _ ≤ sizeLine; simp; decide))) (starEach_cons (nst hk))
      have q4 : Stp X s₃ { s₃ with heap := s₃.heap.push { cls := .type "tuple", data := .seq [va, vb].toArray } } := Stp.push (tk := s₃.toks)
      refine ⟨_, va, vb, rfl, .push, fun h' hh => ?_⟩
      have q5 : Stp X { s₃ with heap := s₃.heap.push { cls := .type "tuple", data := .seq [va, vb].toArray } } { s₃ with heap := h' } := Stp.ext (tk := s₃.toks) hh
      have q := (p₃.trans q4).trans q5
      exact both_plain ok ((st.keep p₁).keep q) (isLoc_iff c1) (isLoc_iff c2) xy (isNone_of c4) (isNone_of c5) (r₁.keep st.wf.ok q) ((r₃.keep st.wf.ok q4).keep st.wf.ok q5) fun s' st'' => hN _ _ _ hk' (.refl _) st''
  · exact h.elim
end
end Mine

namespace Mine

section
variable {t : Rt} {X : Av} {σ : Sto} {s : Shared}

theorem assign_many {T : Tab} {r : EVs} (S : Snd T r) {c : Cx} (ok : t.Ok c.ks) (hT : TabOk t.g t.n T) {kR : V → Prop} {kN : Sto → Prop} {ts es : List Expr} {p p' pos : Pos} {k k' : Nat}
    (h : manyW r c σ ts es kN) : ExOk t X σ (.Assign [.Tuple ts k p] (.Tuple es k' p') pos) kR kN := by
  have hev : ∀ e k, r.ev c σ e k → EvOk t X σ e k := fun e k h => S.ev t c σ e k X ok hT h
  intro s Q st hN hR
  unfold manyW at h
  split at h
  · rename_i xs hxs
    split at h
    · rename_i hc
      simp only [Bool.and_eq_true, decide_eq_true_eq, List.all_eq_true] at hc
      refine Assign_Tuple (Tuple_ (evs_len (S.star c σ) hev _ h s _ st fun ds vs s₁ h₁ p₁ r₁ hl => wpAny_newObj_type ?_ (by show _ ≤ sizeLine; rw [List.size_toArray, hl]; exact Nat.le_trans (Nat.le_of_ble_eq_true hc.1.2) (by decide)))) rfl (swapped_many hc.1.1)
      have q4 : Stp X s₁ { s₁ with heap := s₁.heap.push { cls := .type "tuple", data := .seq vs.toArray } } := Stp.push (tk := s₁.toks)
      have hT' : (s₁.heap.push { cls := .type "tuple", data := .seq vs.toArray }).IsTuple s₁.heap.objs.size vs.toArray := ⟨_, Heap.get?_push_size _ rfl, rfl, _, rfl⟩
      have hl2 : vs.length = ts.length := by
        have h2 : ∀ {xs : List Str} {ds : List V} {σ : Sto}, setVars σ xs ds kN → ds.length = xs.length := by
          intro xs
          induction xs with
          | nil => intro ds σ h; cases ds with | nil => rfl | cons _ _ => exact False.elim h
          | cons x xs ih => intro ds σ h; cases ds with | nil => exact False.elim h | cons d ds => exact congrArg (· + 1) (ih (show setVars _ xs ds kN from h))
        rw [r₁.length, h2 h₁, names_len hxs]
      obtain ⟨e1, e2⟩ := names_each (env := t.env) hxs
      refine wpAny_assign_Tuple ok.room.handled hT' (by rw [e2]; simp [hl2]) e1 fun h' hx => ?_
      have q5 : Stp X { s₁ with heap := s₁.heap.push { cls := .type "tuple", data := .seq vs.toArray } } { s₁ with heap := h' } := Stp.ext (tk := s₁.toks) fun a o e => hx a o (Nat.ne_of_lt (Heap.lt_size e)) e
      have q := q4.trans q5
      refine wpAny_mono (stores_ok ok hxs hc.2 h₁ (r₁.mono fun _ _ x => x.keep st.wf.ok q) ((st.keep p₁).keep q)) (fun _ s' ⟨σ', hk, st'⟩ => hN _ _ _ hk (.refl _) st') fun _ _ e => e
    · exact h.elim
  · exact h.elim

theorem bindT_pair {c : Cx} {x y : Str} {px py p : Pos} {k : Nat} {v : V} {kN : Sto → Prop} (h : bindT c σ (.Tuple [.Name x px, .Name y py] k p) v kN) :
    ∃ a b, v = .pair a b ∧ (isLoc c x && isLoc c y && !(x == y) && (ownIs σ x).isNone && (ownIs σ y).isNone) = true ∧ kN { σ with ρ := (y, b) :: (x, a) :: σ.ρ } := by
  cases hv : vPair v with
  | none => unfold bindT at h; rw [hv] at h; exact False.elim h
  | some z =>
    obtain rfl := vPair_eq (a := z.1) (b := z.2) hv
    replace h : bind2 c σ x y z.1 z.2 kN := h
    unfold bind2 at h
    split at h
    · exact ⟨_, _, rfl, by assumption, h⟩
    · exact h.elim

theorem assign_pair {T : Tab} {r : EVs} (S : Snd T r) {c : Cx} (ok : t.Ok c.ks) (hT : TabOk t.g t.n T) {kR : V → Prop} {kN : Sto → Prop} {x y : Str} {px py p'' pos : Pos} {k : Nat} {e : Expr} (hne : ∀ vs k' p', e ≠ .Tuple vs k' p')
    (h : r.ev c σ e fun v => bindT c σ (.Tuple [.Name x px, .Name y py] k p'') v kN) : ExOk t X σ (.Assign [.Tuple [.Name x px, .Name y py] k p''] e pos) kR kN := by
  intro s Q st hN hR
  refine Assign_Tuple (S.ev t c σ e _ X ok hT h s _ st fun d v s₁ hk p₁ r₁ => ?_) (by cases e <;> rfl) (swapped_other hne)
  obtain ⟨a, b, rfl, hc, hk⟩ := bindT_pair hk
  simp only [Bool.and_eq_true, Bool.not_eq_true'] at hc
  obtain ⟨⟨⟨⟨c1, c2⟩, c3⟩, c4⟩, c5⟩ := hc
  obtain ⟨T', va, vb, rfl, z, hT', ra, rb⟩ := r₁
  have hT'' : s₁.heap.IsTuple T' #[va, vb] := let ⟨n, e⟩ := hT'; ⟨_, e, rfl, n, rfl⟩
  refine wpAny_assign_Tuple ok.room.handled hT'' rfl rfl fun h' hx => ?_
  have q : Stp X s₁ { s₁ with heap := h' } := Stp.ext (tk := s₁.toks) fun a o e => hx a o (Nat.ne_of_lt (Heap.lt_size e)) e
  show wpAny _ _ (do holding [vb] (assign (.Name x px) t.env va); do holding [] (assign (.Name y py) t.env vb); pure ()) _ _ _
  have key := (both_plain ok ((st.keep p₁).keep q) (isLoc_iff c1) (isLoc_iff c2) (by simpa using c3) (isNone_of c4) (isNone_of c5) (ra.keep st.wf.ok q) (rb.keep st.wf.ok q) (Q := Q .next) fun s' st' => hN _ _ _ hk (.refl _) st').1
  exact wpAny_bind (wpAny_holding (wpAny_assign_Name (wpAny_mono key (fun _ s₄ h₄ => wpAny_bind (wpAny_holding (wpAny_assign_Name (wpAny_mono h₄ (fun _ s₅ h₅ => wpAny_pure h₅) fun _ _ e => e)))) fun _ _ e => e)))

theorem assign_sub {T : Tab} {r : EVs} (S : Snd T r) {c : Cx} (ok : t.Ok c.ks) (hT : TabOk t.g t.n T) {kR : V → Prop} {kN : Sto → Prop} {x : Str} {px p pos : Pos} {i e : Expr}
    (h : setW r c σ x i e kN) : ExOk t X σ (.Assign [.Subscript (.Name x px) i p] e pos) kR kN := by
  have hev : ∀ e k, r.ev c σ e k → EvOk t X σ e k := fun e k h => S.ev t c σ e k X ok hT h
  intro s Q st hN hR
  unfold setW at h
  split at h
  · rename_i q ho
    split at h
    · refine wpAny_Assign_Subscript (hev _ _ h s _ st fun d v s₁ hk p₁ r₁ => ?_) (swaps_sub ..)
      have st₁ := st.keep p₁
      obtain ⟨m, a, vs, hn, ho', w⟩ := own_get st₁ ho
      refine name_held ok hn (.inl ⟨w.kind, w.val⟩) (hev _ _ hk s₁ _ st₁ fun d' iv s₂ hk' p₂ r₂ => ?_)
      have st₂ := st₁.keep p₂
      split at hk'
      · rename_i j e'
        rw [vInt_eq e'] at r₂
        obtain ⟨u, rfl⟩ := r₂
        obtain ⟨q', ⟨⟨h0, hlt, hsz⟩, hk'⟩, conv⟩ := asRat_ok hk'
        have hl := w.at_.keep p₂ w.nB
        have hr := w.items.mono fun _ _ x => x.keep st.wf.ok p₂
        have w₂ : OwnAt t X s₂ m x q a vs := ⟨w.kind, w.val, w.inZ, w.out, w.nB, hl, hr, w.K⟩
        have hn₂ : s₂.heap.Ns t.env.locals m := hn.at' fun o e => p₂.keep _ _ st₁.core.Lb e
        refine list_set_plain hl h0 (by unfold szL at hsz; omega) (by rw [hr.length]; exact hlt) fun h' hl' hs' => ?_
        exact hN _ _ _ hk' (.refl _) (st₂.own_write hn₂ ho' w₂ hl' hs' (hr.set _ (conv _ _ _ (r₁.keep st.wf.ok p₂))))
      · exact hk'.elim
    · exact h.elim
  · exact h.elim

theorem aug_sub {T : Tab} {r : EVs} (S : Snd T r) {c : Cx} (ok : t.Ok c.ks) (hT : TabOk t.g t.n T) {kR : V → Prop} {kN : Sto → Prop} {x : Str} {px pos : Pos} {e : Expr}
    (h : augW r c σ x e kN) : ExOk t X σ (.AugAssign (.Name x px) .Sub e pos) kR kN := by
  have hev : ∀ e k, r.ev c σ e k → EvOk t X σ e k := fun e k h => S.ev t c σ e k X ok hT h
  intro s Q st hN hR
  unfold augW at h
  split at h
  · rename_i a hl
    have hl : σ.ρ.lookup x = some (.int a) := by
      unfold intAt at hl
      cases q : σ.ρ.lookup x with
      | none => rw [q] at hl; exact no hl
      | some v => rw [q] at hl; rw [vInt_eq hl]
    obtain ⟨m, hn, hv, ho⟩ := st.vars
    obtain ⟨v, hh, u, rfl⟩ := hv x _ hl
    refine wpAny_AugAssign_Name (load_held ok hn hh (hev _ _ h s _ st fun d v s₁ hk p₁ r₁ => ?_))
    split at hk
    · rename_i e'
      rw [vInt_eq e'] at r₁
      obtain ⟨w, rfl⟩ := r₁
      obtain ⟨h1, h2, h3⟩ := kind_of_setVar hk
      refine isub_int ?_
      have q : Stp X s₁ { s₁ with toks := s₁.toks + 1 } := .toks
      exact store_ok ok ((st.keep p₁).keep q) h1 h2 (show Rep X _ (.int _) _ from ⟨_, rfl⟩) fun s' st' _ => hN _ _ _ h3 (.refl _) st'
    · exact hk.elim
  · exact h.elim

theorem base_name {x m : Str} {p : Pos} {env : Env} {w : Sem Value} : attributeBase (.Name x p) m env w = w := by
  unfold attributeBase; rfl

theorem append_ok {T : Tab} {r : EVs} (S : Snd T r) {c : Cx} (ok : t.Ok c.ks) (hT : TabOk t.g t.n T) {kR : V → Prop} {kN : Sto → Prop} {x m : Str} {px ap cp pos : Pos} {e : Expr}
    (h : appW r c σ x m (ap.endLine == cp.line) e kN) : ExOk t X σ (.Expr (.Call (.Attribute (.Name x px) m ap) [e] [] cp) pos) kR kN := by
  have hev : ∀ e k, r.ev c σ e k → EvOk t X σ e k := fun e k h => S.ev t c σ e k X ok hT h
  intro s Q st hN hR
  unfold appW at h
  split at h
  · rename_i hc
    simp only [Bool.and_eq_true] at hc
    obtain ⟨⟨c1, c2⟩, c3⟩ := hc
    obtain rfl := eq_of_beq c1
    split at h
    · rename_i q ho
      obtain ⟨m, a, vs, hn, ho', w⟩ := own_get st ho
      refine wpAny_Expr_any (call_method (T := "list") (id := "list.append") base_name c2 (by simp) (by simp [c3]) F.plainAttrs_list slot_list_append type_list_append (name_held ok hn (.inl ⟨w.kind, w.val⟩) ?_)) (by unfold interactive; rw [ok.kind]; rfl) rfl
      obtain ⟨n, ha⟩ := id w.at_
      refine ⟨⟨_, ha, rfl⟩, fun b e => by cases e; exact ⟨_, ha, rfl⟩, ?_⟩
      have e1 : starEach [e] t.env = (false, eval e t.env) :: starEach [] t.env := starEach_c c3
      suffices key : wpAny (model t.g.prog t.g.w) t.A (spliced (backTo cp (starEach [e] t.env))) (fun vs s' => wpAny (model t.g.prog t.g.w) t.A (call (.builtin "list.append") ([.ref a] ++ vs) []) (fun _ => Q .next) noE s') noE s by
        refine PySem.Calls.callWith_builtin (by rw [e1]; rfl) ?_
        rw [e1] at key ⊢
        exact PySem.Calls.evalArgs_plain key
      refine wpAny_items_cons (hev _ _ h s _ st fun d v s₁ hk p₁ r₁ => wpAny_items_nil ?_) e1
      obtain ⟨q', ⟨hsz, hk'⟩, conv⟩ := asRat_ok hk
      have st₁ := st.keep p₁
      have hl := w.at_.keep p₁ w.nB
      have hr := w.items.mono fun _ _ x => x.keep st.wf.ok p₁
      have w₁ : OwnAt t X s₁ m x q a vs := ⟨w.kind, w.val, w.inZ, w.out, w.nB, hl, hr, w.K⟩
      have hn₁ : s₁.heap.Ns t.env.locals m := hn.at' fun o e => p₁.keep _ _ st.core.Lb e
      refine wpAny_list_append_plain (hsz := by simp only [List.size_toArray]; rw [hr.length]; have := szL_le; omega) hl.plain fun h' hp hs => ?_
      have hl' : LstAt h' a (vs ++ [v]) := let ⟨n, e⟩ := hp; ⟨n, by rw [e]; simp⟩
      exact hN _ _ _ hk' (.refl _) (st₁.own_write hn₁ ho' w₁ hl' hs (hr.append ⟨conv _ _ _ r₁, trivial⟩))
    · exact h.elim
  · exact h.elim

theorem pop_ok {c : Cx} (ok : t.Ok c.ks) {kR : V → Prop} {kN : Sto → Prop} {x m : Str} {px ap cp pos : Pos}
    (h : popW σ x m (ap.endLine == cp.line) kN) : ExOk t X σ (.Expr (.Call (.Attribute (.Name x px) m ap) [] [] cp) pos) kR kN := by
  intro s Q st hN hR
  unfold popW at h
  split at h
  · rename_i hc
    simp only [Bool.and_eq_true] at hc
    obtain ⟨c1, c2⟩ := hc
    obtain rfl := eq_of_beq c1
    split at h
    · rename_i q ho
      obtain ⟨m, a, vs, hn, ho', w⟩ := own_get st ho
      refine wpAny_Expr_any (call_method (T := "list") (id := "list.pop") base_name c2 (by simp) (by simp) F.plainAttrs_list F.slot_list_pop F.type_list_pop (name_held ok hn (.inl ⟨w.kind, w.val⟩) ?_)) (by unfold interactive; rw [ok.kind]; rfl) rfl
      obtain ⟨n, ha⟩ := id w.at_
      refine ⟨⟨_, ha, rfl⟩, fun b e => by cases e; exact ⟨_, ha, rfl⟩, ?_⟩
      refine PySem.Calls.callWith_builtin rfl (evalArgs_nil3 ?_)
      refine list_pop_plain w.at_ (fun e => h.1.1 (w.items.nil_iff.mp e)) (by rw [w.items.length]; exact Nat.le_trans h.1.2 szL_le) fun h' v hl' hs => ?_
      exact hN _ _ _ h.2 (.refl _) (st.own_write hn ho' w hl' hs w.items.dropLast)
    · exact h.elim
  · exact h.elim
end
end Mine

namespace Mine

section
variable {t : Rt} {X : Av} {σ : Sto} {s : Shared}

theorem nmW_ok {T : Tab} {r : EVs} (S : Snd T r) {c : Cx} (ok : t.Ok c.ks) (hT : TabOk t.g t.n T) {kR : V → Prop} {kN : Sto → Prop} {x : Str} {p pos : Pos} {e : Expr} (h : nmW r c σ x e pos.line kN) : ExOk t X σ (.Assign [.Name x p] e pos) kR kN := by
  unfold nmW at h
  split at h
  · rename_i hnc
    intro s Q st hN hR
    split at h
    · split at h
      · rename_i hc
        simp only [Bool.and_eq_true] at hc
        refine wpAny_Assign_Name (S.fr t c σ _ _ X ok hT hc.2 h s _ st fun d v s₁ s₂ hk p₁ p₂ r₂ hf => ?_) (swaps_name hnc ..)
        obtain ⟨p, rfl, hk⟩ := setOwn_at hk
        obtain ⟨a, vs, X', rfl, le, st', hZ, hO, nB, hl, hr, hK, _⟩ := fresh_own (st.keep p₁) p₂ r₂ hf
        exact own_store ok st' (isLoc_iff hc.1) hZ hO nB hl hr hK fun s' st'' _ => hN _ _ _ hk le st''
      · exact h.elim
    · refine wpAny_Assign_Name (S.ev t c σ e _ X ok hT h s _ st fun d v s₁ hk p₁ r₁ => ?_) (swaps_name hnc ..)
      obtain ⟨h1, h2, h3⟩ := kind_of_setVar hk
      exact store_ok ok (st.keep p₁) h1 h2 r₁ fun s' st' _ => hN _ _ _ h3 (.refl _) st'
  · split at h
    · rename_i elt gens scope p' e'
      split at h
      · rename_i tgt iter ifs e''
        rw [vComp_eq e', vGen_eq e'']
        exact assign_comp S ok hT h
      · exact h.elim
    · exact h.elim

theorem tupW_ok {T : Tab} {r : EVs} (S : Snd T r) {c : Cx} (ok : t.Ok c.ks) (hT : TabOk t.g t.n T) {kR : V → Prop} {kN : Sto → Prop} {ts : List Expr} {k : Nat} {p pos : Pos} {e : Expr} (h : tupW r c σ ts k p e pos.line kN) : ExOk t X σ (.Assign [.Tuple ts k p] e pos) kR kN := by
  unfold tupW at h
  split at h
  · rename_i es k' p' e'
    rw [vTup_eq e']
    split at h
    · rename_i x px y py e1
      rw [vNames_eq e1]
      split at h
      · rename_i e₁ e₂ e2
        rw [two_eq e2]
        exact assign_two S ok hT h
      · exact h.elim
    · exact assign_many S ok hT h
  · rename_i e'
    split at h
    · rename_i z e1
      obtain ⟨x, px, y, py⟩ := z
      rw [vNames_eq e1] at h ⊢
      exact assign_pair S ok hT (vTup_no e') h
    · exact h.elim

theorem ex1_ok {T : Tab} {r : EVs} (S : Snd T r) {c : Cx} (ok : t.Ok c.ks) (hT : TabOk t.g t.n T) {b : Stmt} {kR : V → Prop} {kN : Sto → Prop} (h : ex1 r c σ b kR kN) : ExOk t X σ b kR kN := by
  cases b with
  | Assign ts e pos =>
    replace h : (match one ts with | some t => asgW r c σ t e pos.line kN | none => False) := h
    split at h
    · rename_i tt e'
      rw [one_eq e']
      cases tt with
      | Name x p => exact nmW_ok S ok hT h
      | Tuple ts k p => exact tupW_ok S ok hT h
      | Subscript b i p =>
        replace h : (match vName b with | some (x, _) => setW r c σ x i e kN | none => False) := h
        split at h
        · rename_i x px e1
          rw [vName_eq e1]
          exact assign_sub S ok hT h
        · exact h.elim
      | _ => exact False.elim h
    · exact h.elim
  | AugAssign tt op e pos =>
    replace h : (match vName tt with | some (x, _) => (match isSub op with | true => augW r c σ x e kN | false => False) | none => False) := h
    split at h
    · rename_i x px e1
      rw [vName_eq e1]
      split at h
      · rename_i e2
        rw [isSub_eq e2]
        exact aug_sub S ok hT h
      · exact h.elim
    · exact h.elim
  | Expr e pos =>
    replace h : (match vMeth e with | some (x, _, m, ap, args, cp) => methW r c σ x m (ap.endLine == cp.line) args kN | none => False) := h
    split at h
    · rename_i x px m ap args cp e1
      rw [vMeth_eq e1]
      cases args with
      | nil => exact pop_ok ok h
      | cons e es => cases es with
        | nil => exact append_ok S ok hT h
        | cons _ _ => exact False.elim h
    · exact h.elim
  | If te a b pos =>
    intro s Q st hN hR
    refine wpAny_If (S.tst t c σ te _ X ok hT h s _ st fun b s₁ h₁ p₁ => ?_)
    cases b with
    | true =>
      rw [if_pos rfl]
      exact blk_ok S ok hT (h₁.1 rfl) s₁ Q (st.keep p₁) hN hR
    | false =>
      rw [if_neg (by decide)]
      exact blk_ok S ok hT (h₁.2 rfl) s₁ Q (st.keep p₁) hN hR
  | Return v pos => cases v with
    | none => exact False.elim h
    | some e =>
      intro s Q st hN hR
      have st' := st.freeze ok.x0
      refine wpAny_Return_some (S.ev t c _ _ _ t.X0 ok hT h s _ st' fun d v s₁ hk p₁ r₁ => hR d v s₁ hk (st'.core.keep p₁) r₁)
  | While te body els pos => cases els with
    | cons _ _ => exact False.elim h
    | nil =>
      replace h : whileW r c σ te body kR kN (spAt c pos.line) := h
      cases e : spAt c pos.line with
      | none => rw [e] at h; exact False.elim h
      | some sp =>
        rw [e] at h
        cases sp with
        | whl τσ I μ J x0 inner => exact while_ok S ok hT h
        | whe τσ I μ J inner =>
          obtain ⟨⟨x0, h0⟩, h⟩ := h
          exact while_ok S ok hT ⟨h0, h⟩
        | _ => exact False.elim h
  | For tgt iter body els pos => cases els with
    | cons _ _ => exact False.elim h
    | nil =>
      replace h : (match noSet iter with | true => itW r c σ iter fun n get => forW r c σ tgt body kR kN n get (spAt c pos.line) | false => False) := h
      split at h
      · rename_i hns
        exact for_ok S ok hT hns h
      · exact h.elim
  | _ => exact False.elim h
end

theorem snd (T : Tab) : ∀ n, Snd T (EV T n)
  | 0 => by
    constructor
    · exact fun _ _ _ _ _ h => h
    all_goals (intros; exact False.elim (by assumption))
  | n + 1 => by
    constructor
    · exact fun _ _ _ _ _ h => h
    · intros; exact ev1_ok (snd T n) (by assumption) (by assumption) (by assumption)
    · intros; exact ev1_fresh (snd T n) (by assumption) (by assumption) (by assumption) (by assumption)
    · intros; exact tst1_ok (snd T n) (by assumption) (by assumption) (by assumption)
    · intros; exact ex1_ok (snd T n) (by assumption) (by assumption) (by assumption)

theorem vc_ok {T : Tab} {n : Nat} {c : Cx} {body : List Stmt} {σ : Sto} {kR : V → Prop} {kN : Sto → Prop} (h : vc T n c body σ kR kN) {t : Rt} (ok : t.Ok c.ks) (hT : TabOk t.g t.n T) {X : Av} {s : Shared} {Q : Flow → Shared → Prop} (st : St t X σ s)
    (hN : ∀ τ X' s', kN τ → X.Le X' → St t X' τ s' → Q .next s') (hR : ∀ d v s', kR d → Core t t.X0 s' → Rep t.X0 s'.heap d v → Q (.ret v) s') : wpAny (model t.g.prog t.g.w) t.A (execs body t.env) Q noE s :=
  blk_ok (snd T n) ok hT h s Q st hN hR
end Mine

namespace Mine

/-- a def of the text's -/
structure FnAt (g : Gl) (a : Addr) (fd : FuncData) (body : List Stmt) (names : List Str) : Prop where
  ob : ∃ o, g.B.get? a = some o ∧ o.data = .func fd
  code : g.B.CodeRec fd.code fd.qualname
  body : fd.body = .stmts body
  clo : fd.closure = []
  globals : fd.globals = mainGlobals
  builtins : fd.builtins = builtinsNs
  co : fd.scope.isCoroutine = false
  gen : fd.scope.isGenerator = false
  kind : fd.scope.kind = .function
  nodup : names.Nodup
  bind : ∀ vals : List Value, vals.length = names.length → bindArgs fd ⟨vals, []⟩ = pure (names.zip vals)
  kinds : ∀ x ∈ names, fd.scope.names.lookup x = some .local ∨ fd.scope.names.lookup x = some .cell
  cells : ∀ n x, fd.scope.names.lookup x = some .cell → ((cellsFrom n fd.scope.names []).lookup x).isSome = true
  dbg : fd.scope.names.lookup ("__debug__" : Str) = none
  cdt : fd.scope.names.lookup ("__classdict__" : Str) = none

theorem bindL_out {ko : Str → Option NameKind} : ∀ {bs : List (Str × Value)} {m : Str → Option Value} {x : Str}, x ∉ bs.map (·.1) → bindL ko bs m x = m x
  | [], m, x, _ => rfl
  | (n, v) :: r, m, x, h => by
    simp only [List.map_cons, List.mem_cons, not_or] at h
    unfold bindL
    rw [bindL_out h.2]
    split
    · exact if_neg h.1
    · rfl
theorem bindC_out {ko : Str → Option NameKind} : ∀ {bs : List (Str × Value)} {m : Str → Option Value} {x : Str}, x ∉ bs.map (·.1) → bindC ko bs m x = m x
  | [], m, x, _ => rfl
  | (n, v) :: r, m, x, h => by
    simp only [List.map_cons, List.mem_cons, not_or] at h
    unfold bindC
    rw [bindC_out h.2]
    split
    · rfl
    · exact if_neg h.1
theorem bindL_at {ko : Str → Option NameKind} : ∀ {bs : List (Str × Value)} {m : Str → Option Value} {x : Str} {v : Value}, (bs.map (·.1)).Nodup → bs.lookup x = some v → ko x = some .local → bindL ko bs m x = some v
  | (n, u) :: r, m, x, v, hd, h, hk => by
    simp only [List.map_cons, List.nodup_cons] at hd
    simp only [List.lookup_cons] at h
    unfold bindL
    split at h
    · rename_i q; obtain rfl := eq_of_beq q
      cases h
      rw [bindL_out hd.1, if_pos hk]; simp
    · exact bindL_at hd.2 h hk
theorem bindC_at {ko : Str → Option NameKind} : ∀ {bs : List (Str × Value)} {m : Str → Option Value} {x : Str} {v : Value}, (bs.map (·.1)).Nodup → bs.lookup x = some v → ko x = some .cell → bindC ko bs m x = some v
  | (n, u) :: r, m, x, v, hd, h, hk => by
    simp only [List.map_cons, List.nodup_cons] at hd
    simp only [List.lookup_cons] at h
    unfold bindC
    split at h
    · rename_i q; obtain rfl := eq_of_beq q
      cases h
      rw [bindC_out hd.1, if_neg (by rw [hk]; decide)]; simp
    · exact bindC_at hd.2 h hk
theorem zip_get {R : V → Value → Prop} : ∀ {names : List Str} {ds : List V} {ws : List Value} {x : Str} {d : V}, LR R ds ws → (names.zip ds).lookup x = some d → ∃ v, (names.zip ws).lookup x = some v ∧ R d v ∧ x ∈ names
  | n :: ns, d0 :: ds, w :: ws, x, d, r, h => by
    simp only [List.zip_cons_cons, List.lookup_cons] at h ⊢
    split at h
    · rename_i q; cases h; exact ⟨w, rfl, r.1, by rw [eq_of_beq q]; exact List.mem_cons_self ..⟩
    · obtain ⟨v, h1, h2, h3⟩ := zip_get r.2 h
      exact ⟨v, h1, h2, List.mem_cons_of_mem _ h3⟩
  | [], _, _, x, d, r, h => by simp at h
  | _ :: _, [], _, x, d, r, h => by simp at h
  | _ :: _, _ :: _, [], x, d, r, h => r.elim

theorem Room.deeper {n : Nat} {A : Around} (h : Room (n + 1) A) (env : Env) : Room n (A.deeper env) where
  handled := h.handled
  depth := by have := h.depth; simp only [PyProof.Rows.depth_deeper]; omega
  units := by have := h.units; rw [Around.deeper_units]; omega
  frames := let ⟨l, e⟩ := h.frames; ⟨_, Around.frames_deeper e⟩

/-- what comes back may be read otherwise -/
noncomputable def cvK (k : V → Prop) : V → Prop := fun v => ∃ d, conv v d ∧ k d

/-- the body of a def, in its frame -/
noncomputable def BodyOk (g : Gl) (n : Nat) (X : Av) (ks : List (Str × NameKind)) (body : List Stmt) (σ : Sto) (kR : V → Prop) (kN : Sto → Prop) : Prop :=
  ∀ t : Rt, t.g = g → t.n = n → t.X0 = X → t.Ok ks → ∀ (s₁ : Shared) (Q' : Flow → Shared → Prop), St t X σ s₁ → (∀ τ X' s', kN τ → X.Le X' → St t X' τ s' → Q' .next s') →
    (∀ d v s', kR d → Core t t.X0 s' → Rep t.X0 s'.heap d v → Q' (.ret v) s') → wpAny (model t.g.prog t.g.w) t.A (execs body t.env) Q' noE s₁

theorem fn_frame {g : Gl} (G : g.Ok) (seer : g.B.NoSeer) {n : Nat} {a : Addr} {fd : FuncData} {body : List Stmt} {names : List Str} (F : FnAt g a fd body names) {S : Spec}
    (hvc : ∀ (X : Av) vs k, S vs k → ∃ vs', (∀ X h ws, LR (Rep X h) vs ws → LR (Rep X h) vs' ws) ∧ vs'.length = names.length ∧ BodyOk g n X fd.scope.names body ⟨names.zip vs', none⟩ (cvK k) fun _ => cvK k .none) : Calls g (n + 1) (.ref a) S := by
  intro A X s ws vs0 k Q room wf hS hr0 hQ
  obtain ⟨vs, hcv, hlen, hv⟩ := hvc X vs0 k hS
  have hr := hcv _ _ _ hr0
  obtain ⟨o, ho, hd⟩ := F.ob
  obtain ⟨outer, hfr⟩ := room.frames
  have hwl : ws.length = names.length := by rw [hr.length, hlen]
  have hmap : (names.zip ws).map (·.1) = names := by
    rw [List.map_fst_zip]; omega
  have hroom : A.depth < recursionLimit := by have := room.depth; show A.depth < 1000; omega
  refine wpAny_call (codeAny_call_cells hroom (wf.base _ _ ho) hd (G.lim.keeps wf.base) (F.code.keeps wf.base) F.body (F.bind ws hwl) F.clo ?_ (fun s₁ x => ?_) F.co F.gen F.kind)
  · intro x hx
    have hx' : x.1 ∈ names := by rw [← hmap]; exact List.mem_map_of_mem hx
    exact (F.kinds x.1 hx').imp id fun e => ⟨e, F.cells _ _ e⟩
  · generalize hE : callEnvC fd s.heap.objs.size a = env at x ⊢
    have e1 : env.scope = fd.scope := by subst hE; rfl
    have e2 : env.globals = mainGlobals := by subst hE; exact F.globals
    have e3 : env.builtins = builtinsNs := by subst hE; exact F.builtins
    have e4 : env.locals = s.heap.objs.size := by subst hE; rfl
    have e5 : env.cells = cellsFrom (s.heap.objs.size + 1) fd.scope.names [] := by subst hE; rfl
    have ek : ∀ y, env.kindOf y = fd.scope.names.lookup y := fun y => by unfold Env.kindOf; rw [e1]
    have fresh : ∀ b, s.heap.objs.size ≤ b → s.heap.get? b = none := fun b hb => by
      cases q : s.heap.get? b with
      | none => rfl
      | some o => exact absurd (Heap.lt_size q) (Nat.not_lt.mpr hb)
    have freshB : ∀ b, s.heap.objs.size ≤ b → g.B.get? b = none := fun b hb => by
      cases q : g.B.get? b with
      | none => rfl
      | some o => have := wf.base _ _ q; rw [fresh b hb] at this; cases this
    have nB : ∀ b, s.heap.objs.size ≤ b → ¬ X.inB b := fun b hb i => by
      obtain ⟨o, e⟩ := wf.zin b (wf.ok.mem b i); rw [fresh b hb] at e; cases e
    have cab : ∀ y c, env.cells.lookup y = some c → s.heap.objs.size < c := fun y c e => by
      have := x.above y c (PySem.mem_of_lookup e); rw [e4] at this; exact this
    obtain ⟨h₁, tk, hs₁, hk₁⟩ := x.done
    let t : Rt := { g := g, n := n, env := env, A := A.deeper env, X0 := X, K := fun b o => ¬ X.inB b ∧ s.heap.get? b = some o, G := fun _ _ => False, s0 := s }
    have st1 : Stp X s s₁ := by rw [hs₁]; exact Stp.ext hk₁
    have ok : t.Ok fd.scope.names := {
      g := G, kind := by show env.scope.kind = _; rw [e1]; exact F.kind
      globals := e2, builtins := e3, x0 := wf.ok, room := room.deeper env
      cells := fun y hy => by
        have hy' : fd.scope.names.lookup y = some .cell := (ek y).symm.trans hy
        have := F.cells (s.heap.objs.size + 1) y hy'
        rw [← e5] at this
        exact Option.isSome_iff_exists.mp this
      seer := fun h hb => SeerAt.of (seer.keeps hb) G.tree (Around.frames_deeper hfr) (by rw [e1]; exact F.gen) (by rw [e1]; exact F.co) e3 e2
      dbg := (ek _).trans F.dbg
      cdt := (ek _).trans F.cdt
      ks := fun y => ⟨fun h => (ek y).trans h, fun h => (ek y).trans h, fun h => (ek y).trans h⟩ }
    have core : Core t X s₁ := {
      wf := wf.keep st1
      le := .refl _
      kept := fun b o k => st1.keep b o k.1 k.2
      kL := fun o k => by have := k.2; rw [show t.env.locals = _ from e4, fresh _ (Nat.le_refl _)] at this; cases this
      kC := fun y c e o k => by have := k.2; rw [fresh _ (Nat.le_of_lt (cab y c e))] at this; cases this
      kB := fun b o k => k.1
      Lb := by rw [show t.env.locals = _ from e4]; exact nB _ (Nat.le_refl _)
      Cb := fun y c e => ⟨nB _ (Nat.le_of_lt (cab y c e)), by rw [show t.env.locals = _ from e4]; exact Nat.ne_of_gt (cab y c e), _, x.cell y c e⟩
      Ci := fun y z c h1 h2 => name_of_addr x.apart (PySem.mem_of_lookup h1) (PySem.mem_of_lookup h2)
      LB := by rw [show t.env.locals = _ from e4]; exact freshB _ (Nat.le_refl _)
      CB := fun y c e => freshB _ (Nat.le_of_lt (cab y c e))
      gh := fun _ _ k => k.elim
      rest := ⟨h₁, tk, hs₁⟩ }
    have st : St t X ⟨names.zip vs, none⟩ s₁ := by
      refine ⟨core, _, x.toInCall.ns, fun y d e => ?_, fun y p e => by cases e⟩
      obtain ⟨v, h1, h2, h3⟩ := zip_get hr e
      refine ⟨v, ?_, h2.keep wf.ok st1⟩
      rcases F.kinds y h3 with hk | hk
      · exact .inl ⟨(ek y).trans hk, bindL_at (by rw [hmap]; exact F.nodup) h1 ((ek y).trans hk)⟩
      · have := F.cells (s.heap.objs.size + 1) y hk
        rw [← e5] at this
        obtain ⟨c, hc⟩ := Option.isSome_iff_exists.mp this
        refine .inr ⟨(ek y).trans hk, c, hc, ?_⟩
        have hcell := x.cell y c hc
        rw [bindC_at (by rw [hmap]; exact F.nodup) h1 ((ek y).trans hk)] at hcell
        exact hcell
    have out : ∀ d v s', cvK k d → Core t X s' → Rep X s'.heap d v → Q v s' := fun d v s' ⟨d', hcd, hk⟩ hc hr' => by
      replace hr' := conv_ok hcd hr'
      refine hQ d' v s' hk ⟨fun b o i e => hc.kept b o ⟨i, e⟩, fun b c e n' u is ws' _ _ _ => ?_, hc.rest⟩ hr'
      exact hc.wf.box b c e
    refine wpAny_mono (hv t rfl rfl rfl ok s₁ (fun f s' => match f with | .ret v => Q v s' | .next => Q .none s' | _ => False) st (fun τ X' s' hk le st' => out .none .none s' hk (st'.core.down wf.ok) rfl) fun d v s' hk hc hr' => out d v s' hk hc hr') (fun f s' h => ?_) fun _ _ h => h.elim
    cases f with
    | ret v => exact h
    | next => exact h
    | brk => exact h.elim
    | cont => exact h.elim

theorem fn_ok {g : Gl} (G : g.Ok) (seer : g.B.NoSeer) {n : Nat} {a : Addr} {fd : FuncData} {body : List Stmt} {names : List Str} (F : FnAt g a fd body names) {T : Tab} (hT : TabOk g n T) {S : Spec}
    (hvc : ∀ vs k, S vs k → ∃ vs', (∀ X h ws, LR (Rep X h) vs ws → LR (Rep X h) vs' ws) ∧ vs'.length = names.length ∧ ∃ m sp, vc T m ⟨fd.scope.names, sp⟩ body ⟨names.zip vs', none⟩ (cvK k) fun _ => cvK k .none) : Calls g (n + 1) (.ref a) S := by
  refine fn_frame G seer F fun X vs k hS => ?_
  obtain ⟨vs', h1, h2, m, sp, hv⟩ := hvc vs k hS
  refine ⟨vs', h1, h2, fun t e1 e2 e3 ok s₁ Q' st hN hR => ?_⟩
  subst e1 e2
  exact vc_ok hv (t := t) ok hT st hN hR
end Mine

namespace Mine

noncomputable def stAt (i : Nat) : Stmt := PySem.Challenge.pw_pq0189_01.main.body.getD i (.Pass ⟨0, 0, 0, 0⟩)
noncomputable def bodyAt (i : Nat) : List Stmt := match stAt i with | .FunctionDef _ _ b _ _ _ _ _ _ _ => b | _ => []
noncomputable def scopeAt (i : Nat) : Scope := match stAt i with | .FunctionDef _ _ _ _ _ _ s _ _ _ => s | _ => { kind := .module, names := [], isGenerator := false, isCoroutine := false, more := [] }
noncomputable def paramsAt (i : Nat) : Arguments := match stAt i with | .FunctionDef _ a _ _ _ _ _ _ _ _ => a | _ => { posonlyargs := [], args := [], vararg := none, kwonlyargs := [], kw_defaults := [], kwarg := none, defaults := [] }
noncomputable def nameAt (i : Nat) : Str := match stAt i with | .FunctionDef n _ _ _ _ _ _ _ _ _ => n | _ => Str.ofString ""

local macro_rules | `(tactic| walk_at "w") => `(tactic| conv => whnf)
noncomputable def VcOk (i : Nat) (l : List (Str × Spec)) (names : List Str) (S : Spec) : Prop :=
  ∀ vs k, S vs k → ∃ vs', (∀ X h ws, LR (Rep X h) vs ws → LR (Rep X h) vs' ws) ∧ vs'.length = names.length ∧
    ∃ m sp, vc (fun x => l.lookup x) m ⟨(scopeAt i).names, sp⟩ (bodyAt i) ⟨names.zip vs', none⟩ (cvK k) fun _ => cvK k .none

noncomputable def sLen : Spec | [.poly p], k => p.length ≤ szL ∧ k (.int p.length) | [.ilst p], k => p.length ≤ szL ∧ k (.int p.length) | _, _ => False
noncomputable def sAbs : Spec | [.int a], k => k (.int a.natAbs) | _, _ => False
noncomputable def sMax : Spec | [.int a, .int b], k => k (.int (if a < b then b else a)) | _, _ => False
noncomputable def sList : Spec | [.poly p], k => p.length ≤ szL ∧ k (.poly p) | _, _ => False

/-- the size of a rational -/
noncomputable def hq (q : Rat) : Nat := max (Builtin.Int.intBits q.num) (Builtin.Int.intBits (q.den : Int))
noncomputable def Fit (q : Rat) : Prop := hq q ≤ 50000000
noncomputable def hp (p : List Rat) (N : Nat) : Prop := ∀ q ∈ p, hq q ≤ N

open Builtin.Int
theorem hq_num {q : Rat} {N : Nat} (h : hq q ≤ N) : intBits q.num ≤ N := Nat.le_trans (Nat.le_max_left ..) h
theorem hq_den {q : Rat} {N : Nat} (h : hq q ≤ N) : intBits (q.den : Int) ≤ N := Nat.le_trans (Nat.le_max_right ..) h
theorem hq_of {q : Rat} {N : Nat} (h1 : intBits q.num ≤ N) (h2 : intBits (q.den : Int) ≤ N) : hq q ≤ N := Nat.max_le.mpr ⟨h1, h2⟩

theorem hq_divInt {a b : Int} {N : Nat} (hb : b ≠ 0) (h1 : intBits a ≤ N) (h2 : intBits b ≤ N) : hq (Rat.divInt a b) ≤ N := by
  refine hq_of (intBits_le_of_natAbs ?_ h1) (intBits_le_of_natAbs ?_ h2)
  · rw [Rat.num_divInt]
    refine Nat.le_trans (Int.natAbs_ediv_le_natAbs _ _) ?_
    rw [Int.natAbs_mul]
    have : b.sign.natAbs ≤ 1 := by
      rcases Int.lt_trichotomy b 0 with h | h | h
      · rw [Int.sign_eq_neg_one_of_neg h]; decide
      · rw [h]; decide
      · rw [Int.sign_eq_one_of_pos h]; decide
    exact Nat.le_trans (Nat.mul_le_mul_right _ this) (by simp)
  · rw [Rat.den_divInt, if_neg hb]
    simp only [Int.natAbs_natCast]
    exact Nat.div_le_self ..
theorem den_ne (q : Rat) : (q.den : Int) ≠ 0 := by exact_mod_cast q.den_nz
theorem add_divInt (p q : Rat) : p + q = Rat.divInt (p.num * q.den + q.num * p.den) (p.den * q.den) := by
  conv => lhs; rw [← Rat.num_divInt_den p, ← Rat.num_divInt_den q, Rat.divInt_add_divInt _ _ (den_ne p) (den_ne q)]
theorem sub_divInt (p q : Rat) : p - q = Rat.divInt (p.num * q.den - q.num * p.den) (p.den * q.den) := by
  conv => lhs; rw [← Rat.num_divInt_den p, ← Rat.num_divInt_den q, Rat.divInt_sub_divInt _ _ (den_ne p) (den_ne q)]
theorem mul_divInt (p q : Rat) : p * q = Rat.divInt (p.num * q.num) (p.den * q.den) := by
  conv => lhs; rw [← Rat.num_divInt_den p, ← Rat.num_divInt_den q, Rat.divInt_mul_divInt]
theorem div_divInt (p q : Rat) : p / q = Rat.divInt (p.num * q.den) (p.den * q.num) := by
  rw [Rat.div_def]
  conv => lhs; rw [← Rat.num_divInt_den p, ← Rat.num_divInt_den q, Rat.inv_divInt, Rat.divInt_mul_divInt]
theorem hq_add {p q : Rat} {m n : Nat} (h1 : hq p ≤ m) (h2 : hq q ≤ n) : hq (p + q) ≤ m + n + 1 := by
  rw [add_divInt]
  refine hq_divInt (Int.mul_ne_zero (den_ne p) (den_ne q)) ?_ ?_
  · exact Nat.le_trans (intBits_add_le (intBits_mul_le (hq_num h1) (hq_den h2)) (intBits_mul_le (hq_num h2) (hq_den h1))) (by omega)
  · exact Nat.le_trans (intBits_mul_le (hq_den h1) (hq_den h2)) (by omega)
theorem hq_sub {p q : Rat} {m n : Nat} (h1 : hq p ≤ m) (h2 : hq q ≤ n) : hq (p - q) ≤ m + n + 1 := by
  rw [sub_divInt]
  refine hq_divInt (Int.mul_ne_zero (den_ne p) (den_ne q)) ?_ ?_
  · exact Nat.le_trans (intBits_sub_le (intBits_mul_le (hq_num h1) (hq_den h2)) (intBits_mul_le (hq_num h2) (hq_den h1))) (by omega)
  · exact Nat.le_trans (intBits_mul_le (hq_den h1) (hq_den h2)) (by omega)
theorem hq_mul {p q : Rat} {m n : Nat} (h1 : hq p ≤ m) (h2 : hq q ≤ n) : hq (p * q) ≤ m + n := by
  rw [mul_divInt]
  exact hq_divInt (Int.mul_ne_zero (den_ne p) (den_ne q)) (intBits_mul_le (hq_num h1) (hq_num h2)) (intBits_mul_le (hq_den h1) (hq_den h2))
theorem hq_div {p q : Rat} {m n : Nat} (h0 : q ≠ 0) (h1 : hq p ≤ m) (h2 : hq q ≤ n) : hq (p / q) ≤ m + n := by
  rw [div_divInt]
  exact hq_divInt (Int.mul_ne_zero (den_ne p) (fun e => h0 (Rat.num_eq_zero.mp e))) (intBits_mul_le (hq_num h1) (hq_den h2)) (intBits_mul_le (hq_den h1) (hq_num h2))
theorem hq_neg {p : Rat} : hq (-p) = hq p := by
  unfold hq; rw [Rat.neg_num, Rat.neg_den]
  congr 1
  refine Nat.le_antisymm (intBits_le_of_natAbs (by omega) (Nat.le_refl _)) (intBits_le_of_natAbs (by omega) (Nat.le_refl _))
theorem hq_inv {p : Rat} {n : Nat} (h0 : p ≠ 0) (h : hq p ≤ n) : hq p⁻¹ ≤ n := by
  rw [Rat.inv_def]; exact hq_divInt (fun e => h0 (Rat.num_eq_zero.mp e)) (hq_den h) (hq_num h)
theorem bits_small {a : Int} {n : Nat} (h : a.natAbs < 2 ^ n) : intBits a ≤ n := intBits_le_iff.mpr h
theorem hq_zero : hq 0 ≤ 1 := by decide
theorem hq_one : hq 1 ≤ 1 := by decide
theorem mulOk {a b : Int} (h1 : intBits a ≤ 60000000) (h2 : intBits b ≤ 60000000) : IntMulOk a b := IntMulOk.of_le h1 h2 (by decide)
theorem Fit.num {q : Rat} (h : Fit q) : intBits q.num ≤ 60000000 := Nat.le_trans (hq_num h) (by decide)
theorem Fit.den {q : Rat} (h : Fit q) : intBits (q.den : Int) ≤ 60000000 := Nat.le_trans (hq_den h) (by decide)

/-- a ratio brought down -/
theorem ratio_ok {a b : Int} (hb : b ≠ 0) : (Rat.divInt a b).num = a.fdiv (if 0 < b then (Int.gcd a b : Int) else - (Int.gcd a b : Int)) ∧ ((Rat.divInt a b).den : Int) = b.fdiv (if 0 < b then (Int.gcd a b : Int) else - (Int.gcd a b : Int)) := by
  have hg : Int.gcd a b ≠ 0 := by rw [Ne, Int.gcd_eq_zero_iff]; exact fun h => hb h.2
  have hg' : (Int.gcd a b : Int) ≠ 0 := by exact_mod_cast hg
  have d1 : (Int.gcd a b : Int) ∣ a := Int.gcd_dvd_left ..
  have d2 : (Int.gcd a b : Int) ∣ b := Int.gcd_dvd_right ..
  rw [Rat.num_divInt, Rat.den_divInt, if_neg hb, Int.gcd_comm b a]
  have key : ((b.natAbs / Int.gcd a b : Nat) : Int) = b.natAbs / (Int.gcd a b : Int) := by simp
  rw [key]
  by_cases h : 0 < b
  · rw [if_pos h, Int.sign_eq_one_of_pos h, Int.fdiv_eq_ediv_of_nonneg _ (by omega), Int.fdiv_eq_ediv_of_nonneg _ (by omega)]
    refine ⟨by simp, ?_⟩
    rw [show (b.natAbs : Int) = b by omega]
  · have hn : b < 0 := by omega
    rw [if_neg h, Int.sign_eq_neg_one_of_neg hn, Int.fdiv_neg hg', Int.fdiv_neg hg', if_pos d1, if_pos d2, Int.fdiv_eq_ediv_of_nonneg _ (by omega), Int.fdiv_eq_ediv_of_nonneg _ (by omega)]
    refine ⟨?_, ?_⟩
    · rw [Int.neg_one_mul, Int.neg_ediv_of_dvd d1]
    · rw [show (b.natAbs : Int) = -b by omega, Int.neg_ediv_of_dvd d2]
end Mine

namespace Mine
open Builtin.Int (intBits)
local macro_rules | `(tactic| walk_at "w") => `(tactic| conv => whnf)
local macro_rules | `(tactic| walk_at "s") => `(tactic| (
  (with_reducible show subS _ _)
  refine And.intro ?_ ?_
  rotate_left
  exact (by first | exact True.intro | exact rfl)
  (repeat' (first | exact True.intro | (refine And.intro ?_ ?_) | exact rfl))
  (try all_goals (conv => whnf))))

local macro_rules | `(tactic| walk_at "i") => `(tactic| first
  | refine ⟨fun _ => ?_, fun e => absurd e (by decide), .inl rfl⟩
  | refine ⟨fun e => absurd e (by decide), fun _ => ?_, .inr rfl⟩
  | refine ⟨mulOk (by assumption) (by assumption), ?_⟩)
local macro_rules | `(tactic| walk_at "W") => `(tactic| (walk_at "w"; repeat (walk_at "i"; walk_at "w")))

noncomputable def sGcd : Spec | [.int a, .int b], k => k (.int (Int.gcd a b)) | _, _ => False
noncomputable def gcdL (l : List Int) : Nat := l.foldl (fun g x => Int.gcd g x) 0
noncomputable def sGcdAll : Spec | [.ilst l], k => l.length ≤ szL ∧ k (.int (gcdL l)) | _, _ => False
noncomputable def sRat : Spec | [.int a, .int b], k => b ≠ 0 ∧ k (.rat (Rat.divInt a b)) | _, _ => False
noncomputable def sBin (f : Rat → Rat → Rat) : Spec | [x, y], k => asRat x fun p => asRat y fun q => Fit p ∧ Fit q ∧ k (.rat (f p q)) | _, _ => False
noncomputable def sRdiv : Spec | [x, y], k => asRat x fun p => asRat y fun q => q ≠ 0 ∧ Fit p ∧ Fit q ∧ k (.rat (p / q)) | _, _ => False
noncomputable def sRneg : Spec | [.rat p], k => k (.rat (-p)) | _, _ => False
noncomputable def sRinv : Spec | [.rat p], k => p ≠ 0 ∧ k (.rat p⁻¹) | _, _ => False

theorem gcd_step (a b : Int) (hb : b ≠ 0) (ha : 0 ≤ a) (hb0 : 0 ≤ b) : 0 ≤ a.fmod b ∧ (a.fmod b).natAbs < b.natAbs ∧ Int.gcd b (a.fmod b) = Int.gcd a b := by
  have h1 : a.fmod b = a % b := Int.fmod_eq_emod_of_nonneg _ hb0
  rw [h1]
  have h2 := Int.emod_nonneg a hb
  have h3 := Int.emod_lt_of_pos a (show 0 < b by omega)
  refine ⟨h2, by omega, ?_⟩
  obtain ⟨m, rfl⟩ := Int.eq_ofNat_of_zero_le ha
  obtain ⟨n, rfl⟩ := Int.eq_ofNat_of_zero_le hb0
  simp only [Int.gcd, Int.natAbs_natCast, ← Int.natCast_emod]
  rw [Nat.gcd_comm m n, Nat.gcd_rec n m, Nat.gcd_comm]

theorem gcd_vc : VcOk 3 [("abs", sAbs)] ["a", "b"] sGcd := by
  intro vs k h
  unfold sGcd at h
  split at h
  · rename_i a b
    refine ⟨_, fun _ _ _ r => r, rfl, 20, [(11, .whl (Int × Int) (fun x => 0 ≤ x.1 ∧ 0 ≤ x.2 ∧ Int.gcd x.1 x.2 = Int.gcd a b) (fun x => x.2.natAbs) (fun x => ⟨[("a", .int x.1), ("b", .int x.2)], none⟩) (a.natAbs, b.natAbs) fun _ => [])], ?_⟩
    walk_at "w"
    refine ⟨⟨?_, ?_⟩, ?_⟩
    · simp [Int.gcd]
    · walk_at "s"
    · intro x ⟨h1, h2, h3⟩
      walk_at "w"
      refine ⟨fun hb => ?_, fun hb => ?_⟩
      · have hb : x.2 ≠ 0 := by simpa using hb
        obtain ⟨g1, g2, g3⟩ := gcd_step x.1 x.2 hb h1 h2
        walk_at "w"
        refine ⟨hb, ?_⟩
        exact ⟨(x.2, x.1.fmod x.2), ⟨⟨h2, g1, g3.trans h3⟩, g2⟩, by walk_at "s"⟩
      · have hb : x.2 = 0 := by simpa using hb
        walk_at "w"
        refine ⟨.int (Int.gcd a b), ?_, h⟩
        show x.1 = _
        rw [← h3, hb]; simp; omega
  · exact h.elim

theorem cv_rat {k : V → Prop} {q : Rat} {x y : Int} (h1 : q.num = x) (h2 : (q.den : Int) = y) (h : k (.rat q)) : cvK k (.pair (.int x) (.int y)) := ⟨.rat q, ⟨h1, h2⟩, h⟩
theorem cv_int {k : V → Prop} {x y : Int} (h1 : x = y) (h : k (.int y)) : cvK k (.int x) := ⟨.int y, h1, h⟩
theorem cv_bool {k : V → Prop} {x y : Bool} (h1 : x = y) (h : k (.bool y)) : cvK k (.bool x) := ⟨.bool y, h1, h⟩
theorem cv_q {k : V → Prop} {x y : Rat} (h1 : x = y) (h : k (.rat y)) : cvK k (.rat x) := ⟨.rat y, h1, h⟩
theorem cv_poly {k : V → Prop} {x y : List Rat} (h1 : x = y) (h : k (.poly y)) : cvK k (.poly x) := ⟨.poly y, h1, h⟩
theorem cv_ilst {k : V → Prop} {x y : List Int} (h1 : x = y) (h : k (.ilst y)) : cvK k (.ilst x) := ⟨.ilst y, h1, h⟩

theorem take_succ_getD {α : Type} {l : List α} {i : Nat} (d : α) (h : i < l.length) : l.take (i + 1) = l.take i ++ [l.getD i d] := by
  rw [List.take_add_one, List.getElem?_eq_getElem h, List.getD_eq_getElem?_getD, List.getElem?_eq_getElem h]; rfl

theorem gcdAll_vc : VcOk 4 [("gcd", sGcd)] ["numbers"] sGcdAll := by
  intro vs k h
  unfold sGcdAll at h
  split at h
  · rename_i l
    refine ⟨_, fun _ _ _ r => r, rfl, 20, [(16, .loop Unit (fun _ _ => True) (fun i _ => ⟨[("found", .int (gcdL (l.take i)))], none⟩) () fun _ _ => [])], ?_⟩
    walk_at "w"
    refine ⟨h.1, ?_⟩
    refine ⟨⟨trivial, ?_⟩, ?_, ?_⟩
    · walk_at "s"
    · intro i _ hi _
      walk_at "w"
      refine ⟨(), trivial, ?_⟩
      walk_at "s"
      rw [take_succ_getD 0 hi, gcdL, gcdL, List.foldl_append]; rfl
    · intro _ _
      walk_at "w"
      exact cv_int (by rw [List.take_length]) h.2
  · exact h.elim

theorem rat_vc : VcOk 8 [("gcd", sGcd)] ["top", "bottom"] sRat := by
  intro vs k h
  unfold sRat at h
  split at h
  · rename_i a b
    have hg : (Int.gcd a b : Int) ≠ 0 := by
      have : Int.gcd a b ≠ 0 := by rw [Ne, Int.gcd_eq_zero_iff]; exact fun e => h.1 e.2
      exact_mod_cast this
    obtain ⟨r1, r2⟩ := ratio_ok (a := a) h.1
    refine ⟨_, fun _ _ _ r => r, rfl, 20, [], ?_⟩
    walk_at "w"
    refine ⟨fun hb => ?_, fun hb => ?_⟩
    · exact absurd (by simpa using hb) h.1
    · walk_at "w"
      refine ⟨fun hc => ?_, fun hc => ?_⟩
      · have hc : 0 < b := by simpa using hc
        rw [if_pos hc] at r1 r2
        walk_at "w"
        refine ⟨hg, ?_⟩
        walk_at "w"
        exact ⟨hg, cv_rat r1 r2 h.2⟩
      · have hc : ¬ 0 < b := by simpa using hc
        rw [if_neg hc] at r1 r2
        walk_at "w"
        have e : (0 : Int) - (Int.gcd a b : Int) = -(Int.gcd a b : Int) := by omega
        refine ⟨by rw [e]; omega, ?_⟩
        walk_at "w"
        refine ⟨by rw [e]; omega, cv_rat ?_ ?_ h.2⟩
        · rw [e]; exact r1
        · rw [e]; exact r2
  · exact h.elim

/-- two rationals are handed on -/
theorem two_rats {f : Rat → Rat → Prop} {x y : V} (h : asRat x fun p => asRat y fun q => f p q) : ∃ p q, f p q ∧ ∀ X hh ws, LR (Rep X hh) [x, y] ws → LR (Rep X hh) [.rat p, .rat q] ws := by
  obtain ⟨p, h1, r1⟩ := asRat_ok h
  obtain ⟨q, h2, r2⟩ := asRat_ok h1
  refine ⟨p, q, h2, fun X hh ws r => ?_⟩
  obtain ⟨u, v, rfl, a, b⟩ := r.two
  exact ⟨r1 _ _ _ a, r2 _ _ _ b, trivial⟩

theorem radd_vc : VcOk 9 [("rat", sRat)] ["a", "b"] (sBin (· + ·)) := by
  intro vs k h
  unfold sBin at h
  split at h
  · obtain ⟨p, q, ⟨f1, f2, h⟩, hr⟩ := two_rats h
    have := f1.num; have := f1.den; have := f2.num; have := f2.den
    refine ⟨_, hr, rfl, 20, [], ?_⟩
    walk_at "W"
    exact ⟨Int.mul_ne_zero (den_ne p) (den_ne q), cv_q (add_divInt p q).symm h⟩
  · exact h.elim
theorem rsub_vc : VcOk 10 [("rat", sRat)] ["a", "b"] (sBin (· - ·)) := by
  intro vs k h
  unfold sBin at h
  split at h
  · obtain ⟨p, q, ⟨f1, f2, h⟩, hr⟩ := two_rats h
    have := f1.num; have := f1.den; have := f2.num; have := f2.den
    refine ⟨_, hr, rfl, 20, [], ?_⟩
    walk_at "W"
    exact ⟨Int.mul_ne_zero (den_ne p) (den_ne q), cv_q (sub_divInt p q).symm h⟩
  · exact h.elim
theorem rmul_vc : VcOk 11 [("rat", sRat)] ["a", "b"] (sBin (· * ·)) := by
  intro vs k h
  unfold sBin at h
  split at h
  · obtain ⟨p, q, ⟨f1, f2, h⟩, hr⟩ := two_rats h
    have := f1.num; have := f1.den; have := f2.num; have := f2.den
    refine ⟨_, hr, rfl, 20, [], ?_⟩
    walk_at "W"
    exact ⟨Int.mul_ne_zero (den_ne p) (den_ne q), cv_q (mul_divInt p q).symm h⟩
  · exact h.elim
theorem num_ne {q : Rat} (h : q ≠ 0) : q.num ≠ 0 := fun e => h (Rat.num_eq_zero.mp e)
theorem rdiv_vc : VcOk 12 [("rat", sRat)] ["a", "b"] sRdiv := by
  intro vs k h
  unfold sRdiv at h
  split at h
  · obtain ⟨p, q, ⟨h0, f1, f2, h⟩, hr⟩ := two_rats h
    have := f1.num; have := f1.den; have := f2.num; have := f2.den
    refine ⟨_, hr, rfl, 20, [], ?_⟩
    walk_at "W"
    exact ⟨Int.mul_ne_zero (den_ne p) (num_ne h0), cv_q (div_divInt p q).symm h⟩
  · exact h.elim
theorem rneg_vc : VcOk 13 [] ["a"] sRneg := by
  intro vs k h
  unfold sRneg at h
  split at h
  · rename_i p
    refine ⟨_, fun _ _ _ r => r, rfl, 20, [], ?_⟩
    walk_at "W"
    exact cv_rat (by rw [Rat.neg_num]; omega) (by rw [Rat.neg_den]) h
  · exact h.elim
theorem rinv_vc : VcOk 14 [("rat", sRat)] ["a"] sRinv := by
  intro vs k h
  unfold sRinv at h
  split at h
  · rename_i p
    refine ⟨_, fun _ _ _ r => r, rfl, 20, [], ?_⟩
    walk_at "W"
    exact ⟨num_ne h.1, cv_q (Rat.inv_def p).symm h.2⟩
  · exact h.elim

theorem lratio_vc : VcOk 42 [("abs", sAbs)] ["top", "bottom"] sRat := by
  intro vs k h
  unfold sRat at h
  split at h
  · rename_i a b
    have hg : (Int.gcd a b : Int) ≠ 0 := by
      have : Int.gcd a b ≠ 0 := by rw [Ne, Int.gcd_eq_zero_iff]; exact fun e => h.1 e.2
      exact_mod_cast this
    obtain ⟨r1, r2⟩ := ratio_ok (a := a) h.1
    refine ⟨_, fun _ _ _ r => r, rfl, 20, [(134, .whl (Int × Int) (fun x => 0 ≤ x.1 ∧ 0 ≤ x.2 ∧ Int.gcd x.1 x.2 = Int.gcd a b) (fun x => x.2.natAbs) (fun x => ⟨[("one", .int x.1), ("other", .int x.2), ("top", .int a), ("bottom", .int b)], none⟩) (a.natAbs, b.natAbs) fun _ => [])], ?_⟩
    walk_at "w"
    refine ⟨⟨?_, ?_⟩, ?_⟩
    · simp [Int.gcd]
    · walk_at "s"
    · intro x ⟨h1, h2, h3⟩
      walk_at "w"
      refine ⟨fun hb => ?_, fun hb => ?_⟩
      · have hb : x.2 ≠ 0 := by simpa using hb
        obtain ⟨g1, g2, g3⟩ := gcd_step x.1 x.2 hb h1 h2
        walk_at "w"
        refine ⟨hb, ?_⟩
        exact ⟨(x.2, x.1.fmod x.2), ⟨⟨h2, g1, g3.trans h3⟩, g2⟩, by walk_at "s"⟩
      · have hb : x.2 = 0 := by simpa using hb
        have hx : x.1 = (Int.gcd a b : Int) := by rw [← h3, hb]; simp; omega
        walk_at "w"
        refine ⟨fun hc => ?_, fun hc => ?_⟩
        · have hc : 0 < b := by simpa using hc
          rw [if_pos hc] at r1 r2
          walk_at "w"
          refine ⟨by rw [hx]; exact hg, ?_⟩
          walk_at "w"
          exact ⟨by rw [hx]; exact hg, cv_rat (by rw [hx]; exact r1) (by rw [hx]; exact r2) h.2⟩
        · have hc : ¬ 0 < b := by simpa using hc
          rw [if_neg hc] at r1 r2
          walk_at "w"
          refine ⟨by rw [hx]; omega, ?_⟩
          walk_at "w"
          exact ⟨by rw [hx]; omega, cv_rat (by rw [hx]; exact r1) (by rw [hx]; exact r2) h.2⟩
  · exact h.elim
theorem lsum_vc : VcOk 44 [("_law_ratio", sRat)] ["one", "other"] (sBin (· + ·)) := by
  intro vs k h
  unfold sBin at h
  split at h
  · obtain ⟨p, q, ⟨f1, f2, h⟩, hr⟩ := two_rats h
    have := f1.num; have := f1.den; have := f2.num; have := f2.den
    refine ⟨_, hr, rfl, 20, [], ?_⟩
    walk_at "W"
    exact ⟨Int.mul_ne_zero (den_ne p) (den_ne q), cv_q (add_divInt p q).symm h⟩
  · exact h.elim
theorem ltimes_vc : VcOk 45 [("_law_ratio", sRat)] ["one", "other"] (sBin (· * ·)) := by
  intro vs k h
  unfold sBin at h
  split at h
  · obtain ⟨p, q, ⟨f1, f2, h⟩, hr⟩ := two_rats h
    have := f1.num; have := f1.den; have := f2.num; have := f2.den
    refine ⟨_, hr, rfl, 20, [], ?_⟩
    walk_at "W"
    exact ⟨Int.mul_ne_zero (den_ne p) (den_ne q), cv_q (mul_divInt p q).symm h⟩
  · exact h.elim
theorem lminus_vc : VcOk 47 [] ["one"] sRneg := by
  intro vs k h
  unfold sRneg at h
  split at h
  · rename_i p
    refine ⟨_, fun _ _ _ r => r, rfl, 20, [], ?_⟩
    walk_at "W"
    exact cv_rat (by rw [Rat.neg_num]) (by rw [Rat.neg_den]) h
  · exact h.elim
end Mine

namespace Mine

noncomputable def co (p : List Rat) (i : Nat) : Rat := p.getD i 0
@[simp] theorem co_nil (i : Nat) : co [] i = 0 := by simp [co]
theorem co_cons (x : Rat) (p : List Rat) (i : Nat) : co (x :: p) i = if i = 0 then x else co p (i - 1) := by
  cases i <;> simp [co]
theorem co_out {p : List Rat} {i : Nat} (h : p.length ≤ i) : co p i = 0 := by
  simp [co, List.getD_eq_getElem?_getD, List.getElem?_eq_none h]
theorem co_in {p : List Rat} {i : Nat} (h : i < p.length) : co p i = p[i] := by
  simp [co, List.getD_eq_getElem?_getD, List.getElem?_eq_getElem h]
theorem co_mem {p : List Rat} {i : Nat} (h : i < p.length) : co p i ∈ p := by rw [co_in h]; exact List.getElem_mem h
theorem co_map {f : Nat → Rat} {n i : Nat} : co ((List.range n).map f) i = if i < n then f i else 0 := by
  by_cases h : i < n
  · rw [co_in (by simpa using h), if_pos h]; simp
  · rw [co_out (by simpa using h), if_neg h]
theorem ext_co {p q : List Rat} (hl : p.length = q.length) (h : ∀ i, i < p.length → co p i = co q i) : p = q := by
  apply List.ext_getElem hl
  intro i h1 h2
  have := h i h1
  rwa [co_in h1, co_in h2] at this
theorem co_append {p q : List Rat} {i : Nat} : co (p ++ q) i = if i < p.length then co p i else co q (i - p.length) := by
  by_cases h : i < p.length
  · rw [if_pos h]; simp [co, List.getD_eq_getElem?_getD, List.getElem?_append_left h]
  · rw [if_neg h]; simp [co, List.getD_eq_getElem?_getD, List.getElem?_append_right (Nat.le_of_not_lt h)]
theorem co_map' {f : Rat → Rat} (h0 : f 0 = 0) {p : List Rat} {i : Nat} : co (p.map f) i = f (co p i) := by
  by_cases h : i < p.length
  · rw [co_in (by simpa using h), co_in h]; simp
  · rw [co_out (by simpa using Nat.le_of_not_lt h), co_out (Nat.le_of_not_lt h), h0]
theorem co_take {p : List Rat} {n i : Nat} : co (p.take n) i = if i < n then co p i else 0 := by
  by_cases h : i < n
  · rw [if_pos h]; simp [co, List.getD_eq_getElem?_getD, List.getElem?_take, h]
  · rw [if_neg h, co_out]; simp; omega
theorem co_drop {p : List Rat} {n i : Nat} : co (p.drop n) i = co p (n + i) := by
  simp [co, List.getD_eq_getElem?_getD, List.getElem?_drop]
theorem co_set {p : List Rat} {j i : Nat} {x : Rat} (h : j < p.length) : co (p.set j x) i = if i = j then x else co p i := by
  by_cases e : i = j
  · subst e; rw [if_pos rfl, co_in (by simpa using h)]; simp
  · rw [if_neg e]; simp [co, List.getD_eq_getElem?_getD, List.getElem?_set, Ne.symm e]

/-- no 0 at its end -/
noncomputable def Tr (p : List Rat) : Prop := p ≠ [] → co p (p.length - 1) ≠ 0
theorem tr_nil : Tr [] := fun h => absurd rfl h
theorem tr_ext {p q : List Rat} (h1 : Tr p) (h2 : Tr q) (h : ∀ i, co p i = co q i) : p = q := by
  refine ext_co ?_ fun i _ => h i
  rcases Nat.lt_trichotomy p.length q.length with hl | hl | hl
  · have hq : q ≠ [] := by rintro rfl; simp at hl
    exact absurd ((h _).symm.trans (co_out (by omega))) (h2 hq)
  · exact hl
  · have hp : p ≠ [] := by rintro rfl; simp at hl
    exact absurd ((h _).trans (co_out (by omega))) (h1 hp)

noncomputable def trim : List Rat → List Rat
  | [] => []
  | x :: p => match trim p with
    | [] => if x = 0 then [] else [x]
    | y :: t => x :: y :: t
theorem co_trim : ∀ (p : List Rat) (i : Nat), co (trim p) i = co p i
  | [], i => rfl
  | x :: p, i => by
    have ih := co_trim p
    unfold trim
    split
    · rename_i e
      have hz : ∀ j, co p j = 0 := fun j => by rw [← ih j, e]; simp
      split
      · rename_i hx; subst hx; rw [co_cons]; split
        · simp
        · simp [hz]
      · rw [co_cons, co_cons]; split
        · rfl
        · rw [hz]; simp
    · rename_i y t e
      rw [co_cons x (y :: t), co_cons x p, ← e, ih]
theorem tr_cons {x : Rat} {p : List Rat} (hp : p ≠ []) (h : Tr p) : Tr (x :: p) := fun _ => by
  have : 0 < p.length := List.length_pos_iff.mpr hp
  rw [co_cons, if_neg (by simp; omega)]
  simpa using h hp
theorem tr_trim : ∀ p : List Rat, Tr (trim p)
  | [] => tr_nil
  | x :: p => by
    have ih := tr_trim p
    unfold trim
    split
    · split
      · exact tr_nil
      · rename_i hx; intro _; simpa [co] using hx
    · rename_i y t e
      rw [e] at ih
      exact tr_cons (by simp) ih
theorem trim_id {p : List Rat} (h : Tr p) : trim p = p := tr_ext (tr_trim p) h (co_trim p)
theorem trim_co {p q : List Rat} (h : ∀ i, co p i = co q i) : trim p = trim q := tr_ext (tr_trim p) (tr_trim q) fun i => by rw [co_trim, co_trim, h]
theorem trim_len : ∀ p : List Rat, (trim p).length ≤ p.length
  | [] => Nat.le_refl _
  | x :: p => by
    have ih := trim_len p
    unfold trim
    split
    · split <;> simp
    · rename_i y t e; rw [e] at ih; simpa using ih

noncomputable def padd (a b : List Rat) : List Rat := trim ((List.range (max a.length b.length)).map fun i => co a i + co b i)
theorem co_padd {a b : List Rat} {i : Nat} : co (padd a b) i = co a i + co b i := by
  unfold padd
  rw [co_trim, co_map]
  split
  · rfl
  · rename_i h; rw [co_out (p := a) (by omega), co_out (p := b) (by omega)]; exact (Rat.add_zero 0).symm
theorem tr_padd {a b : List Rat} : Tr (padd a b) := tr_trim _
theorem padd_len {a b : List Rat} : (padd a b).length ≤ max a.length b.length := Nat.le_trans (trim_len _) (by simp)

noncomputable def pneg (p : List Rat) : List Rat := p.map fun x => -x
theorem co_pneg {p : List Rat} {i : Nat} : co (pneg p) i = - co p i := co_map' (f := fun x => -x) (by decide)
theorem pneg_len {p : List Rat} : (pneg p).length = p.length := by simp [pneg]
theorem tr_pneg {p : List Rat} (h : Tr p) : Tr (pneg p) := fun hn => by
  have hp : p ≠ [] := by rintro rfl; exact hn rfl
  rw [co_pneg, pneg_len]
  have := h hp
  grind
noncomputable def psub (a b : List Rat) : List Rat := padd a (pneg b)
theorem co_psub {a b : List Rat} {i : Nat} : co (psub a b) i = co a i - co b i := by unfold psub; rw [co_padd, co_pneg]; grind

noncomputable def pscale (p : List Rat) (r : Rat) : List Rat := if r = 0 then [] else p.map fun x => x * r
theorem co_pscale {p : List Rat} {r : Rat} {i : Nat} : co (pscale p r) i = co p i * r := by
  unfold pscale
  split
  · rename_i h; subst h; simp
  · exact co_map' (f := fun x => x * r) (by grind)
theorem pscale_len {p : List Rat} {r : Rat} : (pscale p r).length ≤ p.length := by unfold pscale; split <;> simp
theorem tr_pscale {p : List Rat} {r : Rat} (h : Tr p) : Tr (pscale p r) := fun hn => by
  rw [co_pscale]
  unfold pscale at hn ⊢
  split at hn
  · exact absurd rfl hn
  · rename_i hr
    have hp : p ≠ [] := by rintro rfl; exact hn rfl
    rw [if_neg hr, List.length_map]
    have := h hp
    grind

noncomputable def praise (p : List Rat) (n : Nat) : List Rat := if p = [] then [] else List.replicate n 0 ++ p
theorem co_praise {p : List Rat} {n i : Nat} : co (praise p n) i = if n ≤ i then co p (i - n) else 0 := by
  unfold praise
  split
  · rename_i h; subst h; simp
  · rw [co_append, List.length_replicate]
    by_cases h : i < n
    · rw [if_pos h, if_neg (by omega)]
      simp [co, List.getD_eq_getElem?_getD, List.getElem?_replicate, h]
    · rw [if_neg h, if_pos (by omega)]

/-- sums -/
noncomputable def sm : Nat → (Nat → Rat) → Rat
  | 0, _ => 0
  | n + 1, f => sm n f + f n
theorem sm_congr {n : Nat} {f g : Nat → Rat} (h : ∀ i, i < n → f i = g i) : sm n f = sm n g := by
  induction n with
  | zero => rfl
  | succ n ih => simp only [sm]; rw [ih fun i hi => h i (by omega), h n (by omega)]
theorem sm_zero {n : Nat} {f : Nat → Rat} (h : ∀ i, i < n → f i = 0) : sm n f = 0 := by
  induction n with
  | zero => rfl
  | succ n ih => simp only [sm]; rw [ih fun i hi => h i (by omega), h n (by omega)]; exact Rat.add_zero 0
theorem sm_add {n : Nat} {f g : Nat → Rat} : sm n (fun i => f i + g i) = sm n f + sm n g := by
  induction n with
  | zero => exact (Rat.add_zero 0).symm
  | succ n ih => simp only [sm]; rw [ih]; grind
theorem sm_mul {n : Nat} {f : Nat → Rat} {c : Rat} : sm n (fun i => f i * c) = sm n f * c := by
  induction n with
  | zero => simp [sm]
  | succ n ih => simp only [sm]; rw [ih]; grind
theorem sm_left {n : Nat} {f : Nat → Rat} : sm (n + 1) f = f 0 + sm n (fun i => f (i + 1)) := by
  induction n with
  | zero => simp only [sm]; grind
  | succ n ih => rw [sm, ih, sm]; grind
theorem sm_more {n m : Nat} {f : Nat → Rat} (h : ∀ i, n ≤ i → f i = 0) (hm : n ≤ m) : sm m f = sm n f := by
  induction m with
  | zero => rw [show n = 0 by omega]
  | succ m ih =>
    by_cases e : n = m + 1
    · rw [e]
    · rw [sm, ih (by omega), h m (by omega)]; grind
theorem sm_one {n j : Nat} {f : Nat → Rat} (hj : j < n) (h : ∀ i, i < n → i ≠ j → f i = 0) : sm n f = f j := by
  induction n with
  | zero => omega
  | succ n ih =>
    simp only [sm]
    by_cases e : j = n
    · subst e; rw [sm_zero fun i hi => h i (by omega) (by omega)]; grind
    · rw [ih (by omega) fun i hi => h i (by omega), h n (by omega) (by omega)]; grind

noncomputable def sh (g : Nat → Rat) (i k : Nat) : Rat := if i ≤ k then g (k - i) else 0
noncomputable def cv (n : Nat) (f g : Nat → Rat) (k : Nat) : Rat := sm n fun i => f i * sh g i k
theorem cv_succ {n : Nat} {f g : Nat → Rat} {k : Nat} : cv (n + 1) f g k = cv n f g k + f n * sh g n k := rfl
noncomputable def pmul (a b : List Rat) : List Rat := if a = [] ∨ b = [] then [] else (List.range (a.length + b.length - 1)).map (cv a.length (co a) (co b))
theorem co_pmul {a b : List Rat} {k : Nat} : co (pmul a b) k = cv a.length (co a) (co b) k := by
  unfold pmul
  split
  · rename_i h
    rw [co_nil, cv, sm_zero]
    intro i hi
    rcases h with rfl | rfl
    · simp
    · simp [sh]
  · rw [co_map]
    split
    · rfl
    · rw [cv, sm_zero]
      intro i hi
      unfold sh
      split
      · rw [co_out (p := b) (by omega)]; grind
      · grind
theorem pmul_len {a b : List Rat} : (pmul a b).length = if a = [] ∨ b = [] then 0 else a.length + b.length - 1 := by unfold pmul; split <;> simp
theorem tr_pmul {a b : List Rat} (h1 : Tr a) (h2 : Tr b) : Tr (pmul a b) := fun hn => by
  rw [co_pmul]
  have : ¬ (a = [] ∨ b = []) := fun h => hn (by unfold pmul; rw [if_pos h])
  rw [pmul_len, if_neg this]
  have ha : a ≠ [] := fun e => this (.inl e)
  have hb : b ≠ [] := fun e => this (.inr e)
  have la : 0 < a.length := List.length_pos_iff.mpr ha
  have lb : 0 < b.length := List.length_pos_iff.mpr hb
  unfold cv
  rw [sm_one (j := a.length - 1) (by omega) fun i hi hne => ?_]
  · unfold sh
    rw [if_pos (by omega), show a.length + b.length - 1 - 1 - (a.length - 1) = b.length - 1 by omega]
    have := h1 ha; have := h2 hb
    grind
  · unfold sh
    split
    · rw [co_out (p := b) (by omega)]; grind
    · grind

/-- values -/
noncomputable def ev : List Rat → Rat → Rat
  | [], _ => 0
  | x :: p, r => ev p r * r + x
theorem ev_sm : ∀ {p : List Rat} {r : Rat} {n : Nat}, p.length ≤ n → ev p r = sm n fun i => co p i * r ^ i
  | [], r, n, _ => by rw [sm_zero]; rfl; intro i _; simp
  | x :: p, r, 0, h => by simp at h
  | x :: p, r, n + 1, h => by
    rw [sm_left, ev, ev_sm (p := p) (n := n) (by simpa using h)]
    have : (fun i => co (x :: p) (i + 1) * r ^ (i + 1)) = fun i => co p i * r ^ i * r := by
      funext i; rw [co_cons, if_neg (by omega)]; simp only [Nat.add_sub_cancel]; grind
    rw [this, sm_mul, co_cons, if_pos rfl]
    grind
theorem ev_ext {p q : List Rat} (h : ∀ i, co p i = co q i) (r : Rat) : ev p r = ev q r := by
  rw [ev_sm (n := max p.length q.length) (by omega), ev_sm (p := q) (n := max p.length q.length) (by omega)]
  exact sm_congr fun i _ => by rw [h]
theorem ev_trim {p : List Rat} {r : Rat} : ev (trim p) r = ev p r := ev_ext (co_trim p) r
theorem ev_lin {p a b : List Rat} {c d r : Rat} (h : ∀ i, co p i = co a i * c + co b i * d) : ev p r = ev a r * c + ev b r * d := by
  rw [ev_sm (n := max p.length (max a.length b.length)) (by omega), ev_sm (p := a) (n := max p.length (max a.length b.length)) (by omega), ev_sm (p := b) (n := max p.length (max a.length b.length)) (by omega), ← sm_mul, ← sm_mul, ← sm_add]
  exact sm_congr fun i _ => by rw [h]; grind
theorem ev_padd {a b : List Rat} {r : Rat} : ev (padd a b) r = ev a r + ev b r := by
  rw [ev_lin (a := a) (b := b) (c := 1) (d := 1) fun i => by rw [co_padd]; grind]; grind
theorem ev_psub {a b : List Rat} {r : Rat} : ev (psub a b) r = ev a r - ev b r := by
  rw [ev_lin (a := a) (b := b) (c := 1) (d := -1) fun i => by rw [co_psub]; grind]; grind
theorem ev_pneg {a : List Rat} {r : Rat} : ev (pneg a) r = - ev a r := by
  rw [ev_lin (a := a) (b := []) (c := -1) (d := 0) fun i => by rw [co_pneg]; grind]; grind
theorem ev_pscale {a : List Rat} {c r : Rat} : ev (pscale a c) r = ev a r * c := by
  rw [ev_lin (a := a) (b := []) (c := c) (d := 0) fun i => by rw [co_pscale]; simp; grind]; grind
theorem sm_sh {b : List Rat} {r : Rat} : ∀ {n N : Nat}, n + b.length ≤ N → sm N (fun k => sh (co b) n k * r ^ k) = r ^ n * ev b r
  | 0, N, h => by
    rw [ev_sm (p := b) (n := N) (by omega)]
    have : (fun k => sh (co b) 0 k * r ^ k) = fun k => co b k * r ^ k := by funext k; simp [sh]
    rw [this]; grind
  | n + 1, 0, h => by omega
  | n + 1, N + 1, h => by
    rw [sm_left]
    have : (fun k => sh (co b) (n + 1) (k + 1) * r ^ (k + 1)) = fun k => sh (co b) n k * r ^ k * r := by
      funext k
      have : sh (co b) (n + 1) (k + 1) = sh (co b) n k := by unfold sh; simp
      rw [this]; grind
    rw [this, sm_mul, sm_sh (n := n) (N := N) (by omega)]
    have : sh (co b) (n + 1) 0 = 0 := by simp [sh]
    rw [this]; grind
theorem sm_cv {a : Nat → Rat} {b : List Rat} {r : Rat} {N : Nat} : ∀ {n : Nat}, n + b.length ≤ N + 1 → (b = [] → N = 0) → sm N (fun k => cv n a (co b) k * r ^ k) = sm n (fun i => a i * r ^ i) * ev b r
  | 0, _, _ => by
    rw [sm_zero]
    · simp [sm]
    · intro i _; simp [cv, sm]
  | n + 1, h, hb => by
    by_cases e : b = []
    · subst e; rw [hb rfl]; simp [sm, ev]
    · have hl : 0 < b.length := List.length_pos_iff.mpr e
      have : (fun k => cv (n + 1) a (co b) k * r ^ k) = fun k => cv n a (co b) k * r ^ k + sh (co b) n k * r ^ k * a n := by
        funext k; rw [cv_succ]; grind
      rw [this, sm_add, sm_mul, sm_cv (n := n) (by omega) (fun q => absurd q e), sm_sh (by omega), sm]
      grind
theorem ev_pmul {a b : List Rat} {r : Rat} : ev (pmul a b) r = ev a r * ev b r := by
  by_cases h : a = [] ∨ b = []
  · rw [show pmul a b = [] by unfold pmul; rw [if_pos h]]
    rcases h with rfl | rfl <;> simp [ev]
  · have hb : b ≠ [] := fun e => h (.inr e)
    rw [ev_sm (n := a.length + b.length) (by rw [pmul_len, if_neg h]; omega), ev_sm (p := a) (Nat.le_refl _), ← sm_cv (N := a.length + b.length) (by omega) (fun e => absurd e hb)]
    exact sm_congr fun i _ => by rw [co_pmul]
end Mine

namespace Mine
open Builtin.Int (intBits)
local macro_rules | `(tactic| walk_at "w") => `(tactic| conv => whnf)
local macro_rules | `(tactic| walk_at "s") => `(tactic| (
  (with_reducible show subS _ _)
  refine And.intro ?_ ?_
  rotate_left
  exact (by first | exact True.intro | exact rfl)
  (repeat' (first | exact True.intro | (refine And.intro ?_ ?_) | exact rfl))
  (try all_goals (conv => whnf))))
local macro_rules | `(tactic| walk_at "i") => `(tactic| first
  | refine ⟨fun _ => ?_, fun e => absurd e (by decide), .inl rfl⟩
  | refine ⟨fun e => absurd e (by decide), fun _ => ?_, .inr rfl⟩
  | refine ⟨mulOk (by assumption) (by assumption), ?_⟩)
local macro_rules | `(tactic| walk_at "W") => `(tactic| (walk_at "w"; repeat (walk_at "i"; walk_at "w")))

noncomputable def Ok (p : List Rat) : Prop := p.length ≤ 64 ∧ hp p 50000000
noncomputable def OkM (p : List Rat) : Prop := p.length ≤ 64 ∧ hp p 300000
theorem OkM.ok {p : List Rat} (h : OkM p) : Ok p := ⟨h.1, fun q m => Nat.le_trans (h.2 q m) (by decide)⟩
theorem hp_mono {p : List Rat} {m n : Nat} (h : hp p m) (hmn : m ≤ n) : hp p n := fun q hq => Nat.le_trans (h q hq) hmn
theorem hq_co {p : List Rat} {N : Nat} (h : hp p N) (h1 : 1 ≤ N) (i : Nat) : hq (co p i) ≤ N := by
  by_cases hi : i < p.length
  · exact h _ (co_mem hi)
  · rw [co_out (by omega)]; exact Nat.le_trans hq_zero h1
theorem Ok.fit {p : List Rat} (h : Ok p) (i : Nat) : Fit (co p i) := hq_co h.2 (by decide) i
theorem Ok.sz {p : List Rat} (h : Ok p) : p.length ≤ szL := Nat.le_trans h.1 (by decide)
theorem fit_zero : Fit 0 := Nat.le_trans hq_zero (by decide)
theorem fit_one : Fit 1 := Nat.le_trans hq_one (by decide)

noncomputable def sQtrim : Spec | [.poly p], k => p.length ≤ szL ∧ k (.poly (trim p)) | _, _ => False
noncomputable def sQdegree : Spec | [.poly p], k => p.length ≤ szL ∧ k (.int (p.length - 1)) | _, _ => False
noncomputable def sQlead : Spec | [.poly p], k => p.length ≤ szL ∧ k (.rat (co p (p.length - 1))) | _, _ => False
noncomputable def sQadd : Spec | [.poly a, .poly b], k => Ok a ∧ Ok b ∧ k (.poly (padd a b)) | _, _ => False
noncomputable def sQneg : Spec | [.poly p], k => p.length ≤ szL ∧ k (.poly (pneg p)) | _, _ => False
noncomputable def sQsub : Spec | [.poly a, .poly b], k => Ok a ∧ Ok b ∧ k (.poly (psub a b)) | _, _ => False
noncomputable def sQscale : Spec | [.poly p, y], k => asRat y fun r => Ok p ∧ Fit r ∧ k (.poly (pscale p r)) | _, _ => False
noncomputable def sQraise : Spec | [.poly p, .int n], k => p.length ≤ 64 ∧ 0 ≤ n ∧ n ≤ 64 ∧ k (.poly (praise p n.toNat)) | _, _ => False
noncomputable def sQmul : Spec | [.poly a, .poly b], k => OkM a ∧ OkM b ∧ k (.poly (pmul a b)) | _, _ => False

theorem take_co {p : List Rat} {n : Nat} (h : n < p.length) : p.take (n + 1) = p.take n ++ [co p n] := take_succ_getD 0 h
theorem trim_zero (l : List Rat) : trim (l ++ [0]) = trim l := trim_co fun i => by
  rw [co_append]; split
  · rfl
  · rename_i h; rw [co_out (p := l) (by omega), co_cons]; split <;> simp

theorem qtrim_vc : VcOk 20 [("len", sLen), ("list", sList)] ["row"] sQtrim := by
  intro vs k h
  unfold sQtrim at h
  split at h
  · rename_i p
    refine ⟨_, fun _ _ _ r => r, rfl, 20, [(52, .whl Nat (fun n => n ≤ p.length ∧ trim (p.take n) = trim p) id (fun n => ⟨[("size", .int n), ("row", .poly p)], none⟩) p.length fun _ => [])], ?_⟩
    walk_at "w"
    refine ⟨h.1, ?_⟩
    walk_at "w"
    refine ⟨⟨⟨Nat.le_refl _, by rw [List.take_length]⟩, by walk_at "s"⟩, ?_⟩
    intro n ⟨h1, h2⟩
    walk_at "w"
    have hto : loOf p.length (n : Int) = n := by unfold loOf; rw [if_neg (by omega)]; omega
    refine ⟨fun hn => ?_, fun hn => ?_⟩
    · have hn : n = 0 := by have : ¬ (0 : Int) < n := by simpa [isOp] using hn
                            omega
      walk_at "w"
      refine ⟨fun e => absurd e (by decide), fun _ => ?_⟩
      walk_at "w"
      refine ⟨by unfold small; omega, ?_⟩
      walk_at "w"
      refine ⟨h.1, ?_⟩
      walk_at "w"
      refine ⟨Nat.le_trans (List.length_take_le' ..) h.1, cv_poly ?_ h.2⟩
      rw [hto, ← h2]
      subst hn
      rfl
    · have hn : 0 < n := by have : (0 : Int) < n := by simpa [isOp] using hn
                            omega
      walk_at "w"
      have hix : ixOf p.length ((n : Int) - 1) = n - 1 := by unfold ixOf; rw [if_neg (by omega)]; omega
      refine ⟨⟨by omega, by omega, h.1⟩, ?_⟩
      walk_at "W"
      refine ⟨fun hz => ?_, fun hz => ?_⟩
      · have hz : co p (n - 1) ≠ 0 := fun e => by
          have hz : ¬ (p.getD (ixOf p.length ((n : Int) - 1)) 0).num = 0 := of_decide_eq_false hz
          rw [hix] at hz
          exact hz (Rat.num_eq_zero.mpr e)
        walk_at "w"
        refine ⟨fun e => absurd e (by decide), fun _ => ?_⟩
        walk_at "w"
        refine ⟨by unfold small; have := h.1; unfold szL at this; omega, ?_⟩
        walk_at "w"
        refine ⟨h.1, ?_⟩
        walk_at "w"
        refine ⟨Nat.le_trans (List.length_take_le' ..) h.1, cv_poly ?_ h.2⟩
        rw [hto, ← h2, trim_id]
        intro _
        rw [List.length_take, Nat.min_eq_left h1, co_take, if_pos (by omega)]
        exact hz
      · have hz : co p (n - 1) = 0 := by
          have hz : (p.getD (ixOf p.length ((n : Int) - 1)) 0).num = 0 := of_decide_eq_true hz
          rw [hix] at hz
          exact Rat.num_eq_zero.mp hz
        walk_at "w"
        refine ⟨fun _ => ?_, fun e => absurd e (by decide)⟩
        walk_at "w"
        refine ⟨n - 1, ⟨⟨by omega, ?_⟩, by show n - 1 < n; omega⟩, ?_⟩
        · have : p.take n = p.take (n - 1) ++ [0] := by
            have := take_co (p := p) (n := n - 1) (by omega)
            rw [show n - 1 + 1 = n by omega, hz] at this
            exact this
          rw [← h2, this, trim_zero]
        · walk_at "s"
          omega
  · exact h.elim

theorem qdegree_vc : VcOk 21 [("len", sLen)] ["p"] sQdegree := by
  intro vs k h
  unfold sQdegree at h
  split at h
  · refine ⟨_, fun _ _ _ r => r, rfl, 20, [], ?_⟩
    walk_at "w"
    refine ⟨h.1, ?_⟩
    walk_at "w"
    exact cv_int rfl h.2
  · exact h.elim
theorem qlead_vc : VcOk 22 [("len", sLen)] ["p"] sQlead := by
  intro vs k h
  unfold sQlead at h
  split at h
  · rename_i p
    refine ⟨_, fun _ _ _ r => r, rfl, 20, [], ?_⟩
    walk_at "w"
    refine ⟨h.1, ?_⟩
    walk_at "w"
    refine ⟨fun hn => ?_, fun hn => ?_⟩
    · have hn : 0 < p.length := by have : (0 : Int) < p.length := of_decide_eq_true hn
                                   omega
      walk_at "w"
      refine ⟨⟨by omega, by omega, h.1⟩, cv_q ?_ h.2⟩
      unfold ixOf; rw [if_pos (by decide), show ((-1 : Int) + p.length).toNat = p.length - 1 by omega]; rfl
    · have hn : p.length = 0 := by have : ¬ (0 : Int) < p.length := of_decide_eq_false hn
                                   omega
      walk_at "w"
      exact cv_q (co_out (by omega)).symm h.2
  · exact h.elim

theorem qadd_vc : VcOk 23 [("len", sLen), ("max", sMax), ("radd", sBin (· + ·)), ("qtrim", sQtrim)] ["a", "b"] sQadd := by
  intro vs k h
  unfold sQadd at h
  split at h
  · rename_i a b
    obtain ⟨ha, hb, h⟩ := h
    refine ⟨_, fun _ _ _ r => r, rfl, 20, [(61, .comp (.poly ((List.range (max a.length b.length)).map fun i => co a i + co b i)))], ?_⟩
    walk_at "w"
    refine ⟨ha.sz, ?_⟩
    walk_at "w"
    refine ⟨hb.sz, ?_⟩
    walk_at "w"
    have hm : (if (a.length : Int) < b.length then (b.length : Int) else a.length) = (max a.length b.length : Nat) := by split <;> omega
    have := ha.1
    have := hb.1
    have e64 : (64 : Nat) ≤ szL := by decide
    refine ⟨⟨?_, ?_⟩, ?_⟩
    · unfold small; rw [hm]; omega
    · rw [hm]; omega
    · walk_at "w"
      rw [hm]
      refine ⟨⟨by simp, fun i hi => ?_⟩, ?_⟩
      · have hi : i < max a.length b.length := by simpa using hi
        have hR : ((List.range (max a.length b.length)).map fun i => co a i + co b i).getD i 0 = co a i + co b i := by
          show co _ i = _
          rw [co_map, if_pos hi]
        rw [hR]
        walk_at "w"
        refine ⟨ha.sz, ?_⟩
        walk_at "w"
        refine ⟨fun hia => ?_, fun hia => ?_⟩
        · have hia : (i : Int) < a.length := of_decide_eq_true hia
          walk_at "w"
          refine ⟨⟨by omega, hia, ha.sz⟩, ?_⟩
          walk_at "w"
          have ea : a.getD (ixOf a.length (i : Int)) 0 = co a i := by unfold ixOf; rw [if_neg (by omega)]; rfl
          refine ⟨hb.sz, ?_⟩
          walk_at "w"
          refine ⟨fun hib => ?_, fun hib => ?_⟩
          · have hib : (i : Int) < b.length := of_decide_eq_true hib
            walk_at "w"
            refine ⟨⟨by omega, hib, hb.sz⟩, ?_⟩
            walk_at "w"
            have eb : b.getD (ixOf b.length (i : Int)) 0 = co b i := by unfold ixOf; rw [if_neg (by omega)]; rfl
            rw [ea, eb]
            exact ⟨ha.fit i, hb.fit i, rfl⟩
          · have hib : ¬ (i : Int) < b.length := of_decide_eq_false hib
            walk_at "w"
            rw [ea]
            exact ⟨ha.fit i, fit_zero, by rw [co_out (p := b) (by omega)]; exact rfl⟩
        · have hia : ¬ (i : Int) < a.length := of_decide_eq_false hia
          walk_at "w"
          refine ⟨hb.sz, ?_⟩
          walk_at "w"
          refine ⟨fun hib => ?_, fun hib => ?_⟩
          · have hib : (i : Int) < b.length := of_decide_eq_true hib
            walk_at "w"
            refine ⟨⟨by omega, hib, hb.sz⟩, ?_⟩
            walk_at "w"
            have eb : b.getD (ixOf b.length (i : Int)) 0 = co b i := by unfold ixOf; rw [if_neg (by omega)]; rfl
            rw [eb]
            exact ⟨fit_zero, hb.fit i, by rw [co_out (p := a) (by omega)]; exact rfl⟩
          · exfalso
            have hib : ¬ (i : Int) < b.length := of_decide_eq_false hib
            omega
      · walk_at "w"
        exact ⟨by simp; omega, cv_poly rfl h⟩
  · exact h.elim

theorem getD_map' {f : Rat → Rat} {p : List Rat} {i : Nat} (h : i < p.length) : (p.map f).getD i 0 = f (p.getD i 0) := by
  simp [List.getD_eq_getElem?_getD, List.getElem?_eq_getElem h]

theorem qneg_vc : VcOk 24 [("rneg", sRneg)] ["p"] sQneg := by
  intro vs k h
  unfold sQneg at h
  split at h
  · rename_i p
    refine ⟨_, fun _ _ _ r => r, rfl, 20, [(63, .comp (.poly (pneg p)))], ?_⟩
    walk_at "w"
    refine ⟨h.1, ?_⟩
    walk_at "w"
    refine ⟨⟨by simp [pneg], fun i hi => ?_⟩, ?_⟩
    · rw [show (pneg p).getD i 0 = _ from getD_map' hi]
      walk_at "w"
    · walk_at "w"
      exact cv_poly rfl h.2
  · exact h.elim
theorem qsub_vc : VcOk 25 [("qadd", sQadd), ("qneg", sQneg)] ["a", "b"] sQsub := by
  intro vs k h
  unfold sQsub at h
  split at h
  · rename_i a b
    obtain ⟨ha, hb, h⟩ := h
    refine ⟨_, fun _ _ _ r => r, rfl, 20, [], ?_⟩
    walk_at "w"
    refine ⟨hb.sz, ?_⟩
    walk_at "w"
    refine ⟨ha, ⟨by rw [pneg_len]; exact hb.1, fun q hq => ?_⟩, cv_poly rfl h⟩
    obtain ⟨x, hx, rfl⟩ := List.mem_map.mp hq
    rw [hq_neg]; exact hb.2 x hx
  · exact h.elim
theorem qscale_vc : VcOk 26 [("rmul", sBin (· * ·))] ["p", "r"] sQscale := by
  intro vs k h
  unfold sQscale at h
  split at h
  · rename_i p y
    obtain ⟨r, ⟨hp, hr, h⟩, hc⟩ := asRat_ok h
    refine ⟨[.poly p, .rat r], fun X hh ws q => ?_, rfl, 20, [(67, .comp (.poly (p.map fun x => x * r)))], ?_⟩
    · obtain ⟨u, v, rfl, a, b⟩ := q.two
      exact ⟨a, hc _ _ _ b, trivial⟩
    walk_at "W"
    refine ⟨fun hn => ?_, fun hn => ?_⟩
    · have hn : r ≠ 0 := fun e => by
        have : ¬ r.num = 0 := by simpa using hn
        exact this (Rat.num_eq_zero.mpr e)
      walk_at "w"
      refine ⟨hp.sz, ?_⟩
      walk_at "w"
      refine ⟨⟨by simp, fun i hi => ?_⟩, cv_poly (by unfold pscale; rw [if_neg hn]) h⟩
      rw [getD_map' hi]
      walk_at "w"
      exact ⟨hp.fit i, hr, rfl⟩
    · have hn : r = 0 := by
        have : r.num = 0 := by simpa using hn
        exact Rat.num_eq_zero.mp this
      walk_at "w"
      exact cv_poly (by unfold pscale; rw [if_pos hn]) h
  · exact h.elim
theorem flat_repl (n : Nat) (x : Rat) : (List.replicate n [x]).flatten = List.replicate n x := by
  induction n with
  | zero => rfl
  | succ n ih => rw [List.replicate_succ, List.flatten_cons, ih, List.replicate_succ]; rfl
theorem qraise_vc : VcOk 27 [("len", sLen), ("list", sList)] ["p", "many"] sQraise := by
  intro vs k h
  unfold sQraise at h
  split at h
  · rename_i p n
    obtain ⟨h1, h2, h3, h⟩ := h
    have hs : p.length ≤ szL := Nat.le_trans h1 (by decide)
    refine ⟨_, fun _ _ _ r => r, rfl, 20, [], ?_⟩
    walk_at "w"
    refine ⟨hs, ?_⟩
    walk_at "w"
    refine ⟨fun hn => ?_, fun hn => ?_⟩
    · have hn : 0 < p.length := by have : (0 : Int) < p.length := of_decide_eq_true hn
                                   omega
      walk_at "w"
      refine ⟨⟨by simp; unfold szL; omega, by omega, by omega⟩, ?_⟩
      walk_at "w"
      refine ⟨hs, ?_⟩
      walk_at "w"
      refine ⟨by simp; unfold szL; omega, cv_poly ?_ h⟩
      unfold praise
      rw [if_neg (by rintro rfl; simp at hn), flat_repl]
    · have hn : p = [] := by have : ¬ (0 : Int) < p.length := of_decide_eq_false hn
                             exact List.length_eq_zero_iff.mp (by omega)
      walk_at "w"
      exact cv_poly (by unfold praise; rw [if_pos hn]) h
  · exact h.elim
end Mine

namespace Mine
open Builtin.Int (intBits)
local macro_rules | `(tactic| walk_at "w") => `(tactic| conv => whnf)
local macro_rules | `(tactic| walk_at "s") => `(tactic| (
  (with_reducible show subS _ _)
  refine And.intro ?_ ?_
  (repeat' (first | exact True.intro | (refine And.intro ?_ ?_) | exact rfl))
  (try all_goals (conv => whnf))))
local macro_rules | `(tactic| walk_at "i") => `(tactic| first
  | refine ⟨fun _ => ?_, fun e => absurd e (by decide), .inl rfl⟩
  | refine ⟨fun e => absurd e (by decide), fun _ => ?_, .inr rfl⟩
  | refine ⟨mulOk (by assumption) (by assumption), ?_⟩)
local macro_rules | `(tactic| walk_at "W") => `(tactic| (walk_at "w"; repeat (walk_at "i"; walk_at "w")))

theorem hq_sm {n M : Nat} {f : Nat → Rat} (h : ∀ i, i < n → hq (f i) ≤ M) : hq (sm n f) ≤ n * (M + 1) + 1 := by
  induction n with
  | zero => exact Nat.le_trans hq_zero (by omega)
  | succ n ih =>
    refine Nat.le_trans (hq_add (ih fun i hi => h i (by omega)) (h n (by omega))) ?_
    rw [Nat.succ_mul]; omega
theorem hq_cv {a b : List Rat} {N M : Nat} (ha : hp a N) (hb : hp b M) (h1 : 1 ≤ N) (h2 : 1 ≤ M) (n k : Nat) : hq (cv n (co a) (co b) k) ≤ n * (N + M + 1) + 1 := by
  refine hq_sm fun i _ => hq_mul (hq_co ha h1 i) ?_
  unfold sh; split
  · exact hq_co hb h2 _
  · exact Nat.le_trans hq_zero h2

noncomputable def mF (a b : List Rat) (i : Nat) : List Rat := (List.range (a.length + b.length - 1)).map (cv i (co a) (co b))
noncomputable def mG (a b : List Rat) (i j : Nat) : List Rat := (List.range (a.length + b.length - 1)).map fun k => cv i (co a) (co b) k + (if i ≤ k ∧ k - i < j then co a i * co b (k - i) else 0)
theorem mG_zero (a b : List Rat) (i : Nat) : mG a b i 0 = mF a b i := by
  unfold mG mF
  apply List.map_congr_left
  intro k _
  rw [if_neg (by omega)]; exact Rat.add_zero _
theorem mG_all (a b : List Rat) (i : Nat) : mG a b i b.length = mF a b (i + 1) := by
  unfold mG mF
  apply List.map_congr_left
  intro k _
  rw [cv_succ]
  congr 1
  unfold sh
  by_cases h : i ≤ k
  · rw [if_pos h]
    by_cases h2 : k - i < b.length
    · rw [if_pos ⟨h, h2⟩]
    · rw [if_neg (by omega), co_out (p := b) (by omega)]; grind
  · rw [if_neg h, if_neg (by omega)]; grind
theorem mG_at (a b : List Rat) {i j : Nat} (hi : i < a.length) (hj : j < b.length) : co (mG a b i j) (i + j) = cv i (co a) (co b) (i + j) := by
  unfold mG
  rw [co_map, if_pos (by omega), if_neg (by omega)]; exact Rat.add_zero _
theorem mG_succ (a b : List Rat) {i j : Nat} (hi : i < a.length) (hj : j < b.length) : (mG a b i j).set (i + j) (co (mG a b i j) (i + j) + co a i * co b j) = mG a b i (j + 1) := by
  refine ext_co (by simp [mG]) fun k hk => ?_
  have hk : k < a.length + b.length - 1 := by simpa [mG] using hk
  rw [co_set (by simp [mG]; omega)]
  split
  · rename_i e
    subst e
    rw [mG_at a b hi hj]
    unfold mG
    rw [co_map, if_pos hk, if_pos (by omega), show i + j - i = j by omega]
  · rename_i e
    unfold mG
    rw [co_map, co_map, if_pos hk, if_pos hk]
    congr 1
    by_cases h : i ≤ k ∧ k - i < j
    · rw [if_pos h, if_pos (by omega)]
    · rw [if_neg h, if_neg (by omega)]

theorem qmul_vc : VcOk 28 [("len", sLen), ("radd", sBin (· + ·)), ("rmul", sBin (· * ·))] ["a", "b"] sQmul := by
  intro vs k h
  unfold sQmul at h
  split at h
  · rename_i a b
    obtain ⟨ha, hb, h⟩ := h
    have la := ha.1
    have lb := hb.1
    have e64 : (64 : Nat) ≤ szL := by decide
    have fa := ha.ok.fit
    have fb := hb.ok.fit
    refine ⟨_, fun _ _ _ r => r, rfl, 20, [(73, .own), (74, .loop Unit (fun _ _ => True) (fun i _ => ⟨[("a", .poly a), ("b", .poly b)], some ("found", mF a b i)⟩) () (fun i _ =>
      [(75, .loop Unit (fun _ _ => True) (fun j _ => ⟨[("a", .poly a), ("b", .poly b), ("one", .int i), ("left", .rat (co a i))], some ("found", mG a b i j)⟩) () fun _ _ => [])]))], ?_⟩
    walk_at "w"
    refine ⟨ha.ok.sz, ?_⟩
    walk_at "w"
    refine ⟨fun hz => ?_, fun hz => ?_⟩
    · have hz : a = [] := List.length_eq_zero_iff.mp (by have : (a.length : Int) = 0 := of_decide_eq_true hz; omega)
      walk_at "w"
      refine ⟨fun _ => ?_, fun e => absurd e (by decide)⟩
      walk_at "w"
      exact cv_poly (by unfold pmul; rw [if_pos (.inl hz)]) h
    · have na : a.length ≠ 0 := by have : ¬ (a.length : Int) = 0 := of_decide_eq_false hz
                                   omega
      walk_at "w"
      refine ⟨hb.ok.sz, ?_⟩
      walk_at "w"
      refine ⟨fun hz => ?_, fun hz => ?_⟩
      · have hz : b = [] := List.length_eq_zero_iff.mp (by have : (b.length : Int) = 0 := of_decide_eq_true hz; omega)
        walk_at "w"
        refine ⟨fun _ => ?_, fun e => absurd e (by decide)⟩
        walk_at "w"
        exact cv_poly (by unfold pmul; rw [if_pos (.inr hz)]) h
      · have nb : b.length ≠ 0 := by have : ¬ (b.length : Int) = 0 := of_decide_eq_false hz
                                     omega
        walk_at "w"
        refine ⟨fun e => absurd e (by decide), fun _ => ?_⟩
        walk_at "w"
        refine ⟨ha.ok.sz, ?_⟩
        walk_at "w"
        refine ⟨hb.ok.sz, ?_⟩
        walk_at "w"
        refine ⟨⟨by simp; unfold szL; omega, by omega, by omega⟩, ?_⟩
        walk_at "w"
        refine ⟨ha.ok.sz, ?_⟩
        refine ⟨⟨trivial, ?_⟩, ?_, ?_⟩
        · walk_at "s"
          rw [flat_repl]
          refine ext_co (by simp [mF]; omega) fun i hi => ?_
          have hi : i < a.length + b.length - 1 := by
            have : i < (a.length + b.length - 1 : Int).toNat := by simpa using hi
            omega
          unfold mF
          rw [co_map, if_pos hi]
          have : co (List.replicate ((a.length : Int) + b.length - 1).toNat (0 : Rat)) i = 0 := by
            simp only [co, List.getD_eq_getElem?_getD, List.getElem?_replicate]; split <;> rfl
          exact this
        · intro i _ hi _
          walk_at "w"
          refine ⟨hb.ok.sz, ?_⟩
          refine ⟨⟨trivial, ?_⟩, ?_, ?_⟩
          · walk_at "s"
            exact (mG_zero a b i).symm
          · intro j _ hj _
            have hlen : (mG a b i j).length = a.length + b.length - 1 := by simp [mG]
            have hix : ixOf (mG a b i j).length ((i : Int) + j) = i + j := by unfold ixOf; rw [if_neg (by omega)]; omega
            walk_at "w"
            refine ⟨⟨by rw [hlen]; omega, by rw [hlen]; omega, by rw [hlen]; unfold szL; omega⟩, ?_⟩
            walk_at "w"
            refine ⟨fa i, fb j, ?_⟩
            walk_at "w"
            rw [hix, show (mG a b i j).getD (i + j) 0 = co (mG a b i j) (i + j) from rfl]
            refine ⟨?_, ?_, ?_⟩
            · rw [mG_at a b hi hj]
              have h3 : i * 600001 + 1 ≤ 50000000 := by omega
              exact Nat.le_trans (hq_cv ha.2 hb.2 (by decide) (by decide) i _) h3
            · exact Nat.le_trans (hq_mul (hq_co ha.2 (by decide) i) (hq_co hb.2 (by decide) j)) (by decide)
            · walk_at "w"
              refine ⟨⟨by omega, by rw [hlen]; omega, by rw [hlen]; unfold szL; omega⟩, (), trivial, ?_⟩
              walk_at "s"
              have := mG_succ a b hi hj
              rw [show ((i : Int) + j).toNat = i + j by omega]
              exact this
          · intro _ _
            refine ⟨(), trivial, ?_⟩
            walk_at "s"
            exact mG_all a b i
        · intro _ _
          walk_at "w"
          refine cv_poly ?_ h
          unfold pmul mF
          rw [if_neg]
          rintro (rfl | rfl)
          · exact na rfl
          · exact nb rfl
  · exact h.elim
end Mine

namespace Mine

noncomputable def ppow (p : List Rat) : Nat → List Rat
  | 0 => [1]
  | n + 1 => pmul (ppow p n) p
noncomputable def pcomp : List Rat → List Rat → List Rat
  | [], _ => []
  | x :: a, b => padd (pmul (pcomp a b) b) (trim [x])
noncomputable def pder (p : List Rat) : List Rat := ((List.range p.length).map fun i => co p i * (i : Rat)).drop 1
noncomputable def pint (p : List Rat) : List Rat := if p = [] then [] else 0 :: (List.range p.length).map fun (i : Nat) => co p i / ((i : Rat) + 1)

theorem hp_nil (N : Nat) : hp [] N := fun q h => by simp at h
theorem hp_cons {x : Rat} {p : List Rat} {N : Nat} (h1 : hq x ≤ N) (h2 : hp p N) : hp (x :: p) N := fun q h => (List.mem_cons.mp h).elim (fun e => e ▸ h1) (h2 q)
theorem hp_range {n N : Nat} {f : Nat → Rat} (h : ∀ i, i < n → hq (f i) ≤ N) : hp ((List.range n).map f) N := fun q hq => by
  obtain ⟨i, hi, rfl⟩ := List.mem_map.mp hq
  exact h i (by simpa using hi)
theorem hp_trim {N : Nat} : ∀ {p : List Rat}, hp p N → hp (trim p) N
  | [], _ => hp_nil N
  | x :: p, h => by
    have ih := hp_trim (p := p) fun q m => h q (List.mem_cons_of_mem _ m)
    unfold trim
    split
    · split
      · exact hp_nil N
      · exact hp_cons (h x (List.mem_cons_self ..)) (hp_nil N)
    · rename_i y t e
      rw [e] at ih
      exact hp_cons (h x (List.mem_cons_self ..)) ih
theorem hp_padd {a b : List Rat} {m n : Nat} (h1 : hp a m) (h2 : hp b n) (hm : 1 ≤ m) (hn : 1 ≤ n) : hp (padd a b) (m + n + 1) :=
  hp_trim (hp_range fun i _ => hq_add (hq_co h1 hm i) (hq_co h2 hn i))
theorem hp_pneg {p : List Rat} {n : Nat} (h : hp p n) : hp (pneg p) n := fun q hq' => by
  obtain ⟨x, hx, rfl⟩ := List.mem_map.mp hq'
  rw [hq_neg]; exact h x hx
theorem hp_psub {a b : List Rat} {m n : Nat} (h1 : hp a m) (h2 : hp b n) (hm : 1 ≤ m) (hn : 1 ≤ n) : hp (psub a b) (m + n + 1) := hp_padd h1 (hp_pneg h2) hm hn
theorem hp_pscale {p : List Rat} {r : Rat} {m n : Nat} (h1 : hp p m) (h2 : hq r ≤ n) : hp (pscale p r) (m + n) := by
  unfold pscale
  split
  · exact hp_nil _
  · intro q hq'
    obtain ⟨x, hx, rfl⟩ := List.mem_map.mp hq'
    exact hq_mul (h1 x hx) h2
theorem hp_praise {p : List Rat} {n N : Nat} (h : hp p N) (h1 : 1 ≤ N) : hp (praise p n) N := by
  unfold praise
  split
  · exact hp_nil _
  · intro q hq'
    rcases List.mem_append.mp hq' with m | m
    · rw [(List.mem_replicate.mp m).2]; exact Nat.le_trans hq_zero h1
    · exact h q m
theorem hp_take {p : List Rat} {n N : Nat} (h : hp p N) : hp (p.take n) N := fun q m => h q (List.mem_of_mem_take m)
theorem hp_pmul {a b : List Rat} {m n : Nat} (h1 : hp a m) (h2 : hp b n) (hm : 1 ≤ m) (hn : 1 ≤ n) : hp (pmul a b) (a.length * (m + n + 1) + 1) := by
  unfold pmul
  split
  · exact hp_nil _
  · exact hp_range fun k _ => hq_cv h1 h2 hm hn _ _
theorem pmul_le {a b : List Rat} : (pmul a b).length ≤ a.length + b.length - 1 := by rw [pmul_len]; split <;> omega

theorem ppow_ok {p : List Rat} (h1 : p.length ≤ 30) (h2 : hp p 1000) : OkM (ppow p 0) ∧ OkM (ppow p 1) := by
  have h0 : hp [1] 1 := hp_cons hq_one (hp_nil _)
  refine ⟨⟨by simp [ppow], hp_mono h0 (by decide)⟩, ⟨?_, ?_⟩⟩
  · refine Nat.le_trans pmul_le ?_
    show ([1] : List Rat).length + p.length - 1 ≤ 64
    simp; omega
  · exact hp_mono (hp_pmul h0 h2 (by decide) (by decide)) (by show 1 * (1 + 1000 + 1) + 1 ≤ 300000; omega)

noncomputable def nb : Nat → Nat
  | 0 => 1
  | k + 1 => 13 * (nb k + 4) + 6
theorem nb_pos : ∀ k, 1 ≤ nb k
  | 0 => Nat.le_refl _
  | k + 1 => by unfold nb; omega
theorem pcomp_ok {b : List Rat} (h1 : b.length ≤ 4) (h2 : hp b 3) : ∀ {a : List Rat}, a.length ≤ 4 → hp a 3 → (pcomp a b).length ≤ 3 * a.length + 1 ∧ hp (pcomp a b) (nb a.length)
  | [], _, _ => ⟨by simp [pcomp], hp_nil _⟩
  | x :: a, ha, hx => by
    have ha' : a.length ≤ 3 := by simpa using ha
    obtain ⟨i1, i2⟩ := pcomp_ok h1 h2 (a := a) (by omega) fun q m => hx q (List.mem_cons_of_mem _ m)
    have hx3 : hp (trim [x]) 3 := hp_trim (hp_cons (hx x (List.mem_cons_self ..)) (hp_nil _))
    have l1 : (trim [x]).length ≤ 1 := trim_len _
    have l2 : (pmul (pcomp a b) b).length ≤ 3 * a.length + 4 := Nat.le_trans pmul_le (by omega)
    refine ⟨?_, ?_⟩
    · refine Nat.le_trans padd_len ?_
      simp only [List.length_cons]
      omega
    · have := hp_padd (hp_pmul i2 h2 (nb_pos _) (by decide)) hx3 (by omega) (by decide)
      refine hp_mono this ?_
      show _ ≤ 13 * (nb a.length + 4) + 6
      have : (pcomp a b).length * (nb a.length + 3 + 1) ≤ 13 * (nb a.length + 4) := Nat.mul_le_mul (by omega) (by omega)
      omega
theorem nb_le {k : Nat} (h : k ≤ 4) : nb k ≤ 200000 := by
  have : k = 0 ∨ k = 1 ∨ k = 2 ∨ k = 3 ∨ k = 4 := by omega
  rcases this with rfl | rfl | rfl | rfl | rfl <;> decide
theorem nb_le3 {k : Nat} (h : k ≤ 3) : nb k ≤ 20000 := by
  have : k = 0 ∨ k = 1 ∨ k = 2 ∨ k = 3 := by omega
  rcases this with rfl | rfl | rfl | rfl <;> decide
theorem ev_pcomp {b : List Rat} {r : Rat} : ∀ {a : List Rat}, ev (pcomp a b) r = ev a (ev b r)
  | [] => rfl
  | x :: a => by
    rw [pcomp, ev_padd, ev_pmul, ev_pcomp, ev_trim]
    simp only [ev]; grind
theorem tr_pcomp {b : List Rat} : ∀ {a : List Rat}, Tr (pcomp a b)
  | [] => tr_nil
  | _ :: _ => tr_padd
theorem tr_one : Tr [1] := fun _ => by simp [co]
theorem tr_ppow {p : List Rat} (h : Tr p) : ∀ n, Tr (ppow p n)
  | 0 => tr_one
  | n + 1 => tr_pmul (tr_ppow h n) h
theorem ev_one {r : Rat} : ev [1] r = 1 := by simp only [ev]; grind
theorem drop_co {p : List Rat} {n : Nat} (h : n < p.length) : p.drop n = co p n :: p.drop (n + 1) := by
  rw [co_in h]; exact List.drop_eq_getElem_cons h
theorem hq_ev {r : Rat} {N M : Nat} (hr : hq r ≤ M) : ∀ {p : List Rat}, hp p N → hq (ev p r) ≤ p.length * (N + M + 1) + 1
  | [], _ => Nat.le_trans hq_zero (by simp)
  | x :: p, h => by
    have := hq_ev hr (p := p) fun q m => h q (List.mem_cons_of_mem _ m)
    refine Nat.le_trans (hq_add (hq_mul this hr) (h x (List.mem_cons_self ..))) ?_
    simp only [List.length_cons, Nat.succ_mul]; omega

theorem co_pder {p : List Rat} {i : Nat} : co (pder p) i = co p (i + 1) * ((i : Rat) + 1) := by
  unfold pder
  rw [co_drop, co_map]
  by_cases h : 1 + i < p.length
  · rw [if_pos h, show 1 + i = i + 1 by omega]; congr 1; push_cast; rfl
  · rw [if_neg h, co_out (by omega)]; grind
theorem pder_len {p : List Rat} : (pder p).length = p.length - 1 := by simp [pder]
theorem co_pint {p : List Rat} {i : Nat} : co (pint p) i = if i = 0 then 0 else co p (i - 1) / (i : Rat) := by
  unfold pint
  split
  · rename_i h; subst h; simp; intro; grind
  · rw [co_cons]
    split
    · rfl
    · rename_i hi
      rw [co_map]
      have e : (i : Rat) = ((i - 1 : Nat) : Rat) + 1 := by
        have : i = (i - 1) + 1 := by omega
        conv => lhs; rw [this]
        push_cast; rfl
      split
      · rw [e]
      · rw [co_out (by omega)]; grind
theorem pint_len {p : List Rat} : (pint p).length = if p = [] then 0 else p.length + 1 := by unfold pint; split <;> simp
theorem natR_ne (i : Nat) : ((i : Rat) + 1) ≠ 0 := by
  have : ((i : Rat) + 1) = ((i + 1 : Nat) : Rat) := by push_cast; rfl
  rw [this]
  exact_mod_cast (Nat.succ_ne_zero i)
/-- the derivative of the integral -/
theorem pder_pint (p : List Rat) : pder (pint p) = p := by
  refine ext_co (by rw [pder_len, pint_len]; split <;> simp_all) fun i hi => ?_
  rw [co_pder, co_pint, if_neg (by omega), Nat.add_sub_cancel]
  have := natR_ne i
  have e : ((i + 1 : Nat) : Rat) = (i : Rat) + 1 := by push_cast; rfl
  rw [e]
  grind
theorem ev_pint_zero (p : List Rat) : ev (pint p) 0 = 0 := by
  unfold pint
  split
  · rfl
  · simp only [ev]; grind
end Mine

namespace Mine
open Builtin.Int (intBits)
local macro_rules | `(tactic| walk_at "w") => `(tactic| conv => whnf)
local macro_rules | `(tactic| walk_at "s") => `(tactic| (
  (with_reducible show subS _ _)
  refine And.intro ?_ ?_
  (repeat' (first | exact True.intro | (refine And.intro ?_ ?_) | exact rfl))
  (try all_goals (conv => whnf))))
local macro_rules | `(tactic| walk_at "i") => `(tactic| first
  | refine ⟨fun _ => ?_, fun e => absurd e (by decide), .inl rfl⟩
  | refine ⟨fun e => absurd e (by decide), fun _ => ?_, .inr rfl⟩
  | refine ⟨mulOk (by assumption) (by assumption), ?_⟩)
local macro_rules | `(tactic| walk_at "W") => `(tactic| (walk_at "w"; repeat (walk_at "i"; walk_at "w")))

noncomputable def sQpower : Spec | [.poly p, .int n], k => 0 ≤ n ∧ n ≤ 2 ∧ p.length ≤ 30 ∧ hp p 1000 ∧ k (.poly (ppow p n.toNat)) | _, _ => False
noncomputable def sQat : Spec | [.poly p, .rat r], k => p.length ≤ 20 ∧ hp p 100000 ∧ hq r ≤ 1000000 ∧ k (.rat (ev p r)) | _, _ => False
noncomputable def sQcompose : Spec | [.poly a, .poly b], k => a.length ≤ 4 ∧ b.length ≤ 4 ∧ hp a 3 ∧ hp b 3 ∧ k (.poly (pcomp a b)) | _, _ => False
noncomputable def sQdistance : Spec | [.poly a, .poly b, .rat r], k => a.length ≤ 20 ∧ hp a 100000 ∧ b.length ≤ 20 ∧ hp b 100000 ∧ hq r ≤ 1000000 ∧ k (.rat (ev a r - ev b r)) | _, _ => False
noncomputable def sQderive : Spec | [.poly p], k => Ok p ∧ k (.poly (pder p)) | _, _ => False
noncomputable def sQintegral : Spec | [.poly p], k => Ok p ∧ k (.poly (pint p)) | _, _ => False
noncomputable def pmonic (p : List Rat) : List Rat := if p = [] then [] else pscale p (co p (p.length - 1))⁻¹
noncomputable def sQmonic : Spec | [.poly p], k => Ok p ∧ Tr p ∧ k (.poly (pmonic p)) | _, _ => False

theorem qpower_vc : VcOk 29 [("qmul", sQmul)] ["p", "many"] sQpower := by
  intro vs k h
  unfold sQpower at h
  split at h
  · rename_i p n
    obtain ⟨h1, h2, h3, h4, h⟩ := h
    refine ⟨_, fun _ _ _ r => r, rfl, 20, [(80, .loop Unit (fun _ _ => True) (fun i _ => ⟨[("found", .poly (ppow p i)), ("p", .poly p)], none⟩) () fun _ _ => [])], ?_⟩
    walk_at "w"
    refine ⟨⟨by unfold small; omega, by unfold szL; omega⟩, ?_⟩
    walk_at "w"
    refine ⟨⟨trivial, ?_⟩, ?_, ?_⟩
    · walk_at "s"
    · intro i _ hi _
      have hi : i < n.toNat := hi
      walk_at "w"
      have hp' : OkM p := ⟨by omega, hp_mono h4 (by decide)⟩
      have key : OkM (ppow p i) := by
        have : i = 0 ∨ i = 1 := by omega
        rcases this with rfl | rfl
        · exact (ppow_ok h3 h4).1
        · exact (ppow_ok h3 h4).2
      refine ⟨key, hp', ?_⟩
      walk_at "w"
      refine ⟨(), trivial, ?_⟩
      walk_at "s"
    · intro _ _
      walk_at "w"
      exact cv_poly rfl h
  · exact h.elim

theorem qat_vc : VcOk 35 [("radd", sBin (· + ·)), ("rmul", sBin (· * ·))] ["p", "r"] sQat := by
  intro vs k h
  unfold sQat at h
  split at h
  · rename_i p r
    obtain ⟨h1, h2, h3, h⟩ := h
    have hs : p.length ≤ szL := Nat.le_trans h1 (by decide)
    refine ⟨_, fun _ _ _ r => r, rfl, 20, [(106, .loop Unit (fun _ _ => True) (fun i _ => ⟨[("found", .rat (ev (p.drop (p.length - i)) r)), ("p", .poly p), ("r", .rat r)], none⟩) () fun _ _ => [])], ?_⟩
    walk_at "w"
    refine ⟨hs, ?_⟩
    walk_at "w"
    refine ⟨⟨trivial, ?_⟩, ?_, ?_⟩
    · walk_at "s"
      rw [Nat.sub_zero, List.drop_length]; rfl
    · intro i _ hi _
      have hi : i < p.length := hi
      walk_at "w"
      have hf : ∀ m, hq (ev (p.drop m) r) ≤ 40000000 := fun m => by
        have hd : hp (p.drop m) 100000 := fun q hq => h2 q (List.mem_of_mem_drop hq)
        have hl : (p.drop m).length ≤ 20 := by simp; omega
        have : (p.drop m).length * 1100001 + 1 ≤ 40000000 := by omega
        exact Nat.le_trans (hq_ev h3 hd) this
      refine ⟨Nat.le_trans (hf _) (by decide), Nat.le_trans h3 (by decide), ?_⟩
      walk_at "w"
      refine ⟨Nat.le_trans (hq_mul (hf _) h3) (by decide), Nat.le_trans (hq_co h2 (by decide) (p.length - 1 - i)) (by decide), ?_⟩
      walk_at "w"
      refine ⟨(), trivial, ?_⟩
      walk_at "s"
      rw [drop_co (p := p) (n := p.length - (i + 1)) (by omega), ev, show p.length - (i + 1) + 1 = p.length - i by omega, show p.length - (i + 1) = p.length - 1 - i by omega]
      rfl
    · intro _ _
      walk_at "w"
      exact cv_q (by rw [Nat.sub_self, List.drop_zero]) h
  · exact h.elim

theorem qcompose_vc : VcOk 36 [("qadd", sQadd), ("qmul", sQmul), ("qtrim", sQtrim)] ["a", "b"] sQcompose := by
  intro vs k h
  unfold sQcompose at h
  split at h
  · rename_i a b
    obtain ⟨h1, h2, h3, h4, h⟩ := h
    have hs : a.length ≤ szL := Nat.le_trans h1 (by decide)
    refine ⟨_, fun _ _ _ r => r, rfl, 20, [(111, .loop Unit (fun _ _ => True) (fun i _ => ⟨[("found", .poly (pcomp (a.drop (a.length - i)) b)), ("a", .poly a), ("b", .poly b)], none⟩) () fun _ _ => [])], ?_⟩
    walk_at "w"
    refine ⟨hs, ?_⟩
    walk_at "w"
    refine ⟨⟨trivial, ?_⟩, ?_, ?_⟩
    · walk_at "s"
      rw [Nat.sub_zero, List.drop_length]; rfl
    · intro i _ hi _
      have hi : i < a.length := hi
      walk_at "w"
      have hd : ∀ m, hp (a.drop m) 3 := fun m q hq => h3 q (List.mem_of_mem_drop hq)
      have hl : (a.drop (a.length - i)).length = i := by simp; omega
      obtain ⟨g1, g2⟩ := pcomp_ok h2 h4 (a := a.drop (a.length - i)) (by omega) (hd _)
      rw [hl] at g1 g2
      have g2 : hp (pcomp (a.drop (a.length - i)) b) 20000 := hp_mono g2 (nb_le3 (by omega))
      refine ⟨⟨by omega, hp_mono g2 (by decide)⟩, ⟨by omega, hp_mono h4 (by decide)⟩, ?_⟩
      walk_at "w"
      refine ⟨by show 1 ≤ szL; decide, ?_⟩
      walk_at "w"
      refine ⟨⟨Nat.le_trans pmul_le (by omega), ?_⟩, ⟨Nat.le_trans (trim_len _) (by simp), ?_⟩, ?_⟩
      · refine hp_mono (hp_pmul g2 h4 (by decide) (by decide)) ?_
        have : (pcomp (a.drop (a.length - i)) b).length * 20004 + 1 ≤ 50000000 := by omega
        exact this
      · exact hp_trim (hp_cons (Nat.le_trans (hq_co h3 (by decide) (a.length - 1 - i)) (by decide)) (hp_nil _))
      · walk_at "w"
        refine ⟨(), trivial, ?_⟩
        walk_at "s"
        rw [drop_co (p := a) (n := a.length - (i + 1)) (by omega), pcomp, show a.length - (i + 1) + 1 = a.length - i by omega, show a.length - (i + 1) = a.length - 1 - i by omega]
        rfl
    · intro _ _
      walk_at "w"
      exact cv_poly (by rw [Nat.sub_self, List.drop_zero]) h
  · exact h.elim

theorem qdistance_vc : VcOk 37 [("rsub", sBin (· - ·)), ("qat", sQat)] ["a", "b", "r"] sQdistance := by
  intro vs k h
  unfold sQdistance at h
  split at h
  · rename_i a b r
    obtain ⟨h1, h2, h3, h4, h5, h⟩ := h
    refine ⟨_, fun _ _ _ r => r, rfl, 20, [], ?_⟩
    walk_at "w"
    refine ⟨h1, h2, h5, ?_⟩
    walk_at "w"
    refine ⟨h3, h4, h5, ?_⟩
    walk_at "w"
    have hf : ∀ {p : List Rat}, p.length ≤ 20 → hp p 100000 → hq (ev p r) ≤ 50000000 := fun {p} l e => by
      have : p.length * 1100001 + 1 ≤ 50000000 := by omega
      exact Nat.le_trans (hq_ev h5 e) this
    exact ⟨hf h1 h2, hf h3 h4, cv_q rfl h⟩
  · exact h.elim
theorem int_rat (i : Int) : ((i : Rat).num = i) ∧ (((i : Rat).den : Int) = 1) := ⟨Rat.num_intCast i, by rw [Rat.den_intCast]; rfl⟩
theorem fit_int {i : Int} (h1 : -1000 < i) (h2 : i < 1000) : Fit (i : Rat) := by
  refine hq_of ?_ ?_
  · rw [(int_rat i).1]; exact Nat.le_trans (bits_small (n := 10) (by omega)) (by decide)
  · rw [(int_rat i).2]; decide
theorem qderive_vc : VcOk 33 [("rmul", sBin (· * ·))] ["p"] sQderive := by
  intro vs k h
  unfold sQderive at h
  split at h
  · rename_i p
    have hl := h.1.1
    refine ⟨_, fun _ _ _ r => r, rfl, 20, [(100, .comp (.poly ((List.range p.length).map fun i => co p i * (i : Rat))))], ?_⟩
    walk_at "w"
    refine ⟨h.1.sz, ?_⟩
    walk_at "w"
    refine ⟨⟨by simp, fun i hi => ?_⟩, ?_⟩
    · have hi : i < p.length := hi
      have hR : ((List.range p.length).map fun i => co p i * (i : Rat)).getD i 0 = co p i * (i : Rat) := by
        show co _ i = _
        rw [co_map, if_pos hi]
      rw [hR]
      walk_at "w"
      refine ⟨((i : Int) : Rat), int_rat i, ?_⟩
      walk_at "w"
      exact ⟨h.1.fit i, fit_int (by omega) (by omega), rfl⟩
    · walk_at "w"
      refine ⟨by unfold small; omega, ?_⟩
      walk_at "w"
      refine ⟨⟨by decide, by simp; exact h.1.sz⟩, cv_poly rfl h.2⟩
  · exact h.elim
theorem qintegral_vc : VcOk 34 [("len", sLen), ("rdiv", sRdiv)] ["p"] sQintegral := by
  intro vs k h
  unfold sQintegral at h
  split at h
  · rename_i p
    have hl := h.1.1
    refine ⟨_, fun _ _ _ r => r, rfl, 20, [(102, .comp (.poly ((List.range p.length).map fun (i : Nat) => co p i / ((i : Rat) + 1))))], ?_⟩
    walk_at "w"
    refine ⟨h.1.sz, ?_⟩
    walk_at "w"
    refine ⟨⟨by simp, fun i hi => ?_⟩, ?_⟩
    · have hi : i < p.length := hi
      have hR : ((List.range p.length).map fun (i : Nat) => co p i / ((i : Rat) + 1)).getD i 0 = co p i / ((i : Rat) + 1) := by
        show co _ i = _
        rw [co_map, if_pos hi]
      rw [hR]
      walk_at "w"
      have e : (((i : Int) + 1 : Int) : Rat) = (i : Rat) + 1 := by push_cast; rfl
      refine ⟨(((i : Int) + 1 : Int) : Rat), int_rat _, ?_⟩
      walk_at "w"
      refine ⟨by rw [e]; exact natR_ne i, h.1.fit i, fit_int (by omega) (by omega), ?_⟩
      walk_at "w"
      show _ = _
      rw [e]; rfl
    · walk_at "w"
      refine ⟨by simp; exact h.1.sz, ?_⟩
      walk_at "w"
      refine ⟨fun hn => ?_, fun hn => ?_⟩
      · have hn : p ≠ [] := by
          rintro rfl
          have : (0 : Int) < (((List.range ([] : List Rat).length).map fun (i : Nat) => co [] i / ((i : Rat) + 1)).length : Int) := of_decide_eq_true hn
          simp at this
        walk_at "w"
        refine ⟨by simp; unfold szL; omega, cv_poly ?_ h.2⟩
        unfold pint; rw [if_neg hn]; rfl
      · have hn : p = [] := by
          have : ¬ (0 : Int) < (((List.range p.length).map fun (i : Nat) => co p i / ((i : Rat) + 1)).length : Int) := of_decide_eq_false hn
          simp at this
          exact this
        walk_at "w"
        exact cv_poly (by unfold pint; rw [if_pos hn]) h.2
  · exact h.elim
theorem qmonic_vc : VcOk 31 [("len", sLen), ("rinv", sRinv), ("qscale", sQscale)] ["p"] sQmonic := by
  intro vs k h
  unfold sQmonic at h
  split at h
  · rename_i p
    obtain ⟨h1, h2, h⟩ := h
    refine ⟨_, fun _ _ _ r => r, rfl, 20, [], ?_⟩
    walk_at "w"
    refine ⟨h1.sz, ?_⟩
    walk_at "w"
    refine ⟨fun hn => ?_, fun hn => ?_⟩
    · have hn : 0 < p.length := by have : (0 : Int) < p.length := of_decide_eq_true hn
                                   omega
      have hne : p ≠ [] := by rintro rfl; simp at hn
      walk_at "w"
      refine ⟨⟨by omega, by omega, h1.sz⟩, ?_⟩
      walk_at "w"
      have e : p.getD (ixOf p.length (-1)) 0 = co p (p.length - 1) := by
        unfold ixOf; rw [if_pos (by decide), show ((-1 : Int) + p.length).toNat = p.length - 1 by omega]; rfl
      rw [e]
      refine ⟨h2 hne, ?_⟩
      walk_at "w"
      refine ⟨h1, hq_inv (h2 hne) (h1.fit _), cv_poly ?_ h⟩
      unfold pmonic; rw [if_neg hne]
    · have hn : p = [] := by have : ¬ (0 : Int) < p.length := of_decide_eq_false hn
                             exact List.length_eq_zero_iff.mp (by omega)
      walk_at "w"
      exact cv_poly (by unfold pmonic; rw [if_pos hn]) h
  · exact h.elim
end Mine

namespace Mine
open Builtin.Int (intBits)

theorem foldl_gcd (l : List Int) : ∀ g : Nat, l.foldl (fun (g : Nat) x => Int.gcd g x) g = Nat.gcd g (gcdL l) := by
  induction l with
  | nil => intro g; simp [gcdL]
  | cons x l ih =>
    intro g
    have h : gcdL (x :: l) = Nat.gcd (Int.gcd ((0 : Nat) : Int) x) (gcdL l) := ih _
    rw [List.foldl_cons, ih, h]
    simp [Int.gcd, Nat.gcd_assoc]
theorem gcdL_cons (x : Int) (l : List Int) : gcdL (x :: l) = Nat.gcd x.natAbs (gcdL l) := by
  rw [gcdL, List.foldl_cons, foldl_gcd]; simp [Int.gcd]
theorem gcdL_dvd : ∀ {l : List Int} {x : Int}, x ∈ l → (gcdL l : Int) ∣ x
  | y :: l, x, h => by
    rw [gcdL_cons]
    rcases List.mem_cons.mp h with rfl | h
    · exact Int.dvd_natAbs.mp (Int.ofNat_dvd.mpr (Nat.gcd_dvd_left ..))
    · exact Int.dvd_trans (Int.ofNat_dvd.mpr (Nat.gcd_dvd_right ..)) (gcdL_dvd h)
theorem dvd_gcdL {d : Nat} : ∀ {l : List Int}, (∀ x ∈ l, (d : Int) ∣ x) → d ∣ gcdL l
  | [], _ => ⟨0, rfl⟩
  | y :: l, h => by
    rw [gcdL_cons]
    refine Nat.dvd_gcd ?_ (dvd_gcdL fun x m => h x (List.mem_cons_of_mem _ m))
    exact Int.ofNat_dvd.mp (Int.dvd_natAbs.mpr (h y (List.mem_cons_self ..)))
theorem gcdL_ne {l : List Int} {x : Int} (h : x ∈ l) (hx : x ≠ 0) : gcdL l ≠ 0 := fun e => by
  have := gcdL_dvd h
  rw [e] at this
  exact hx (Int.zero_dvd.mp this)

/-- with the sign of its lead -/
noncomputable def zs (l : List Int) : Int := if 0 < l.getD (l.length - 1) 0 then (gcdL l : Int) else -(gcdL l : Int)
noncomputable def zprim (l : List Int) : List Int := if l = [] then [] else l.map fun x => x.fdiv (zs l)
theorem zs_abs (l : List Int) : (zs l).natAbs = gcdL l := by unfold zs; split <;> omega
theorem zs_dvd {l : List Int} {x : Int} (h : x ∈ l) : zs l ∣ x := by
  rw [← Int.natAbs_dvd, zs_abs]; exact gcdL_dvd h
theorem zs_ne {l : List Int} (h : gcdL l ≠ 0) : zs l ≠ 0 := fun e => h (by rw [← zs_abs, e]; rfl)
theorem fdiv_of_dvd {a b : Int} (hb : b ≠ 0) (h : b ∣ a) : b * a.fdiv b = a := by
  obtain ⟨c, rfl⟩ := h
  rw [Int.mul_fdiv_cancel_left _ hb]
theorem gcdL_prim {l : List Int} (hn : l ≠ []) (h : gcdL l ≠ 0) : gcdL (zprim l) = 1 := by
  have hs := zs_ne h
  have key : gcdL l * gcdL (zprim l) ∣ gcdL l := by
    refine dvd_gcdL fun x hx => ?_
    have h1 : (gcdL (zprim l) : Int) ∣ x.fdiv (zs l) := gcdL_dvd (by unfold zprim; rw [if_neg hn]; exact List.mem_map.mpr ⟨x, hx, rfl⟩)
    have h2 := fdiv_of_dvd hs (zs_dvd hx)
    have h3 : zs l * (gcdL (zprim l) : Int) ∣ x := by
      conv => rhs; rw [← h2]
      exact Int.mul_dvd_mul_left _ h1
    rw [Int.natCast_mul]
    rw [← Int.natAbs_dvd] at h3 ⊢
    rw [Int.natAbs_mul, zs_abs] at h3
    rw [Int.natAbs_mul]
    exact h3
  have : gcdL (zprim l) ∣ 1 := by
    have h0 : 0 < gcdL l := Nat.pos_of_ne_zero h
    exact Nat.dvd_of_mul_dvd_mul_left h0 (by simpa using key)
  exact Nat.dvd_one.mp this
theorem zprim_len (l : List Int) : (zprim l).length = l.length := by unfold zprim; split <;> simp_all
theorem zprim_at {l : List Int} {i : Nat} (hi : i < l.length) : (zprim l).getD i 0 = (l.getD i 0).fdiv (zs l) := by
  have hn : l ≠ [] := by rintro rfl; simp at hi
  unfold zprim
  rw [if_neg hn]
  simp [List.getD_eq_getElem?_getD, List.getElem?_eq_getElem hi]
theorem prim_pos {l : List Int} (hn : l ≠ []) (h : l.getD (l.length - 1) 0 ≠ 0) : 0 < (zprim l).getD ((zprim l).length - 1) 0 := by
  have hl : 0 < l.length := List.length_pos_iff.mpr hn
  rw [zprim_len, zprim_at (by omega)]
  have hm : l.getD (l.length - 1) 0 ∈ l := by
    rw [List.getD_eq_getElem?_getD, List.getElem?_eq_getElem (show l.length - 1 < l.length by omega)]; exact List.getElem_mem _
  have hg := gcdL_ne hm h
  have e := fdiv_of_dvd (zs_ne hg) (zs_dvd hm)
  generalize hx : l.getD (l.length - 1) 0 = x at *
  generalize hq : x.fdiv (zs l) = q at *
  have hs : zs l = if 0 < x then (gcdL l : Int) else -(gcdL l : Int) := by unfold zs; rw [hx]
  have h0 : (0 : Int) < gcdL l := by omega
  by_cases hp : 0 < x
  · rw [if_pos hp] at hs
    rw [hs] at e
    rcases Int.lt_trichotomy q 0 with a | a | a
    · have := Int.mul_neg_of_pos_of_neg h0 a; omega
    · rw [a] at e; simp at e; omega
    · exact a
  · rw [if_neg hp] at hs
    rw [hs] at e
    rcases Int.lt_trichotomy q 0 with a | a | a
    · have := Int.mul_neg_of_pos_of_neg h0 a; rw [Int.neg_mul] at e; omega
    · rw [a] at e; simp at e; omega
    · exact a

/-- the least common bottom -/
noncomputable def bot (q : List Rat) : Nat := q.foldl (fun b x => Nat.lcm b x.den) 1
theorem foldl_lcm (q : List Rat) : ∀ b : Nat, b ≠ 0 → q.foldl (fun b x => Nat.lcm b x.den) b ≠ 0 ∧ b ∣ q.foldl (fun b x => Nat.lcm b x.den) b ∧ ∀ x ∈ q, x.den ∣ q.foldl (fun b x => Nat.lcm b x.den) b := by
  induction q with
  | nil => intro b hb; exact ⟨hb, Nat.dvd_refl _, by simp⟩
  | cons x q ih =>
    intro b hb
    obtain ⟨h1, h2, h3⟩ := ih (Nat.lcm b x.den) (Nat.lcm_ne_zero hb x.den_nz)
    rw [List.foldl_cons]
    refine ⟨h1, Nat.dvd_trans (Nat.dvd_lcm_left ..) h2, fun y hy => ?_⟩
    rcases List.mem_cons.mp hy with rfl | hy
    · exact Nat.dvd_trans (Nat.dvd_lcm_right ..) h2
    · exact h3 y hy
theorem bot_ne (q : List Rat) : bot q ≠ 0 := (foldl_lcm q 1 (by decide)).1
theorem bot_dvd {q : List Rat} {x : Rat} (h : x ∈ q) : x.den ∣ bot q := (foldl_lcm q 1 (by decide)).2.2 x h
theorem bot_snoc (q : List Rat) (x : Rat) : bot (q ++ [x]) = Nat.lcm (bot q) x.den := by unfold bot; rw [List.foldl_append]; rfl
theorem lcm_le (a b : Nat) : Nat.lcm a b ≤ a * b := by unfold Nat.lcm; exact Nat.div_le_self ..
theorem foldl_bits (q : List Rat) {N : Nat} (h : hp q N) : ∀ (b m : Nat), intBits (b : Int) ≤ m → intBits ((q.foldl (fun b x => Nat.lcm b x.den) b : Nat) : Int) ≤ m + q.length * N := by
  induction q with
  | nil => intro b m hb; simpa using hb
  | cons x q ih =>
    intro b m hb
    rw [List.foldl_cons]
    have h1 : intBits ((Nat.lcm b x.den : Nat) : Int) ≤ m + N := by
      refine intBits_le_of_natAbs (y := (b : Int) * x.den) ?_ (intBits_mul_le hb (hq_den (h x (List.mem_cons_self ..))))
      rw [Int.natAbs_mul]; simpa using lcm_le b x.den
    refine Nat.le_trans (ih (fun y m => h y (List.mem_cons_of_mem _ m)) _ _ h1) ?_
    rw [List.length_cons, Nat.succ_mul]; omega
theorem bot_bits {q : List Rat} {N : Nat} (h : hp q N) : intBits (bot q : Int) ≤ 1 + q.length * N := foldl_bits q h 1 1 (by decide)
noncomputable def wh (q : List Rat) : List Int := q.map fun x => x.num * ((bot q / x.den : Nat) : Int)
theorem wh_len (q : List Rat) : (wh q).length = q.length := by simp [wh]
theorem wh_at {q : List Rat} {i : Nat} (hi : i < q.length) : (wh q).getD i 0 = (co q i).num * ((bot q / (co q i).den : Nat) : Int) := by
  unfold wh
  rw [co_in hi]
  simp [List.getD_eq_getElem?_getD, List.getElem?_eq_getElem hi]
theorem wh_rat {q : List Rat} {x : Rat} (h : x ∈ q) : Rat.divInt (x.num * ((bot q / x.den : Nat) : Int)) (bot q) = x := by
  obtain ⟨c, hc⟩ := bot_dvd h
  have hd : x.den ≠ 0 := x.den_nz
  have hc0 : c ≠ 0 := by rintro rfl; exact bot_ne q (by simpa using hc)
  rw [hc, Nat.mul_div_cancel_left _ (Nat.pos_of_ne_zero hd)]
  rw [Int.natCast_mul, ← Rat.divInt_mul_divInt, Rat.num_divInt_den, Rat.divInt_self' (by exact_mod_cast hc0)]
  grind
noncomputable def zrat (q : List Rat) : Rat := if q = [] then 0 else Rat.divInt (zs (wh q)) (bot q)
theorem wh_last {q : List Rat} (hq : q ≠ []) (h : Tr q) : (wh q).getD ((wh q).length - 1) 0 ≠ 0 := by
  have hl : 0 < q.length := List.length_pos_iff.mpr hq
  rw [wh_len, wh_at (by omega)]
  have h1 := h hq
  have hm : co q (q.length - 1) ∈ q := co_mem (by omega)
  have h2 : (bot q / (co q (q.length - 1)).den : Nat) ≠ 0 := by
    obtain ⟨c, hc⟩ := bot_dvd hm
    rw [hc, Nat.mul_div_cancel_left _ (Nat.pos_of_ne_zero (Rat.den_nz _))]
    rintro rfl
    exact bot_ne q (by simpa using hc)
  exact Int.mul_ne_zero (fun e => h1 (Rat.num_eq_zero.mp e)) (by exact_mod_cast h2)
theorem wh_gcd {q : List Rat} (hq : q ≠ []) (h : Tr q) : gcdL (wh q) ≠ 0 := by
  have hl : 0 < (wh q).length := by rw [wh_len]; exact List.length_pos_iff.mpr hq
  refine gcdL_ne (x := (wh q).getD ((wh q).length - 1) 0) ?_ (wh_last hq h)
  rw [List.getD_eq_getElem?_getD, List.getElem?_eq_getElem (show (wh q).length - 1 < (wh q).length by omega)]; exact List.getElem_mem _
noncomputable def prim (q : List Rat) : List Int := zprim (wh q)
theorem prim_len (q : List Rat) : (prim q).length = q.length := by rw [prim, zprim_len, wh_len]
theorem zrat_ne {q : List Rat} (hq : q ≠ []) (h : Tr q) : zrat q ≠ 0 := by
  unfold zrat
  rw [if_neg hq]
  have h1 := zs_ne (wh_gcd hq h)
  intro e
  rw [Rat.divInt_eq_div] at e
  have h2 : ((zs (wh q) : Int) : Rat) ≠ 0 := by exact_mod_cast h1
  have h3 : ((bot q : Int) : Rat) ≠ 0 := by exact_mod_cast (show (bot q : Int) ≠ 0 by exact_mod_cast bot_ne q)
  grind
/-- the whole form times its rational comes back -/
theorem prim_back {q : List Rat} (h : Tr q) : pscale ((prim q).map fun (i : Int) => (i : Rat)) (zrat q) = q := by
  by_cases hq : q = []
  · subst hq; rfl
  · have hz := zrat_ne hq h
    unfold pscale
    rw [if_neg hz]
    refine ext_co (by simp [prim_len]) fun i hi => ?_
    have hi : i < q.length := by simpa [prim_len] using hi
    have hw : i < (wh q).length := by rw [wh_len]; exact hi
    have e1 : co (((prim q).map fun (i : Int) => (i : Rat)).map fun x => x * zrat q) i = ((prim q).getD i 0 : Rat) * zrat q := by
      have hi' : i < (prim q).length := by rw [prim_len]; exact hi
      simp [co, List.getD_eq_getElem?_getD, List.getElem?_eq_getElem hi']
    rw [e1, prim, zprim_at hw]
    have hm : (wh q).getD i 0 ∈ wh q := by
      rw [List.getD_eq_getElem?_getD, List.getElem?_eq_getElem hw]; exact List.getElem_mem _
    have h1 := fdiv_of_dvd (zs_ne (wh_gcd hq h)) (zs_dvd hm)
    have h2 := wh_rat (co_mem hi)
    rw [← wh_at hi, ← h1] at h2
    unfold zrat
    rw [if_neg hq]
    rw [← h2]
    generalize ((wh q).getD i 0).fdiv (zs (wh q)) = c
    rw [Rat.divInt_eq_div, Rat.divInt_eq_div]
    push_cast
    grind
end Mine

namespace Mine
open Builtin.Int (intBits)
local macro_rules | `(tactic| walk_at "w") => `(tactic| conv => whnf)
local macro_rules | `(tactic| walk_at "s") => `(tactic| (
  (with_reducible show subS _ _)
  refine And.intro ?_ ?_
  (repeat' (first | exact True.intro | (refine And.intro ?_ ?_) | exact rfl))
  (try all_goals (conv => whnf))))
local macro_rules | `(tactic| walk_at "i") => `(tactic| first
  | refine ⟨fun _ => ?_, fun e => absurd e (by decide), .inl rfl⟩
  | refine ⟨fun e => absurd e (by decide), fun _ => ?_, .inr rfl⟩
  | refine ⟨mulOk (by assumption) (by assumption), ?_⟩)
local macro_rules | `(tactic| walk_at "W") => `(tactic| (walk_at "w"; repeat (walk_at "i"; walk_at "w")))

noncomputable def sZdivided : Spec | [.ilst l, .int c], k => c ≠ 0 ∧ l.length ≤ szL ∧ k (.ilst (l.map fun x => x.fdiv c)) | _, _ => False
noncomputable def sZprimitive : Spec | [.ilst l], k => l.length ≤ szL ∧ (l ≠ [] → gcdL l ≠ 0) ∧ k (.ilst (zprim l)) | _, _ => False
noncomputable def sToZ : Spec | [.poly q], k => Tr q ∧ q.length ≤ 20 ∧ hp q 1000 ∧ k (.pair (.ilst (prim q)) (.rat (zrat q))) | _, _ => False
noncomputable def toR (l : List Int) : List Rat := l.map fun (i : Int) => (i : Rat)
noncomputable def sFromZ : Spec | [.ilst l], k => l.length ≤ szL ∧ k (.poly (toR l)) | _, _ => False

theorem zcontent_vc : VcOk 16 [("gcd_all", sGcdAll)] ["p"] sGcdAll := by
  intro vs k h
  unfold sGcdAll at h
  split at h
  · refine ⟨_, fun _ _ _ r => r, rfl, 20, [], ?_⟩
    walk_at "w"
    exact ⟨h.1, cv_int rfl h.2⟩
  · exact h.elim
theorem getD_mapI {f : Int → Int} {p : List Int} {i : Nat} (h : i < p.length) : (p.map f).getD i 0 = f (p.getD i 0) := by
  simp [List.getD_eq_getElem?_getD, List.getElem?_eq_getElem h]
theorem zdivided_vc : VcOk 17 [] ["p", "k"] sZdivided := by
  intro vs k h
  unfold sZdivided at h
  split at h
  · rename_i l c
    obtain ⟨h1, h2, h⟩ := h
    refine ⟨_, fun _ _ _ r => r, rfl, 20, [(43, .comp (.ilst (l.map fun x => x.fdiv c)))], ?_⟩
    walk_at "w"
    refine ⟨h2, ?_⟩
    walk_at "w"
    refine ⟨⟨by simp, fun i hi => ?_⟩, cv_ilst rfl h⟩
    rw [getD_mapI hi]
    walk_at "w"
    exact ⟨h1, rfl⟩
  · exact h.elim
theorem last_ix {n : Nat} (h : 0 < n) : ixOf n (-1) = n - 1 := by unfold ixOf; rw [if_pos (by decide)]; omega
theorem zprimitive_vc : VcOk 18 [("len", sLen), ("zcontent", sGcdAll), ("zdivided", sZdivided)] ["p"] sZprimitive := by
  intro vs k h
  unfold sZprimitive at h
  split at h
  · rename_i l
    obtain ⟨h1, h2, h⟩ := h
    refine ⟨_, fun _ _ _ r => r, rfl, 20, [], ?_⟩
    walk_at "w"
    refine ⟨h1, ?_⟩
    walk_at "w"
    refine ⟨fun hz => ?_, fun hz => ?_⟩
    · have hz : l = [] := List.length_eq_zero_iff.mp (by have : (l.length : Int) = 0 := of_decide_eq_true hz; omega)
      walk_at "w"
      subst hz
      exact ⟨.ilst [], ⟨rfl, rfl⟩, h⟩
    · have hn : 0 < l.length := by have : ¬ (l.length : Int) = 0 := of_decide_eq_false hz
                                   omega
      have hne : l ≠ [] := by rintro rfl; simp at hn
      have hg := zs_ne (h2 hne)
      have ez : zprim l = l.map fun x => x.fdiv (zs l) := by unfold zprim; rw [if_neg hne]
      walk_at "w"
      refine ⟨h1, ?_⟩
      walk_at "w"
      refine ⟨⟨by omega, by omega, h1⟩, ?_⟩
      rw [last_ix hn]
      walk_at "w"
      refine ⟨fun hp => ?_, fun hp => ?_⟩
      · have hp : 0 < l.getD (l.length - 1) 0 := of_decide_eq_true hp
        have e : zs l = gcdL l := by unfold zs; rw [if_pos hp]
        rw [e] at hg ez
        walk_at "w"
        exact ⟨hg, h1, cv_ilst ez.symm h⟩
      · have hp : ¬ 0 < l.getD (l.length - 1) 0 := of_decide_eq_false hp
        have e : zs l = -(gcdL l : Int) := by unfold zs; rw [if_neg hp]
        rw [e] at hg ez
        walk_at "w"
        exact ⟨hg, h1, cv_ilst ez.symm h⟩
  · exact h.elim
theorem fromz_vc : VcOk 39 [] ["z"] sFromZ := by
  intro vs k h
  unfold sFromZ at h
  split at h
  · rename_i l
    refine ⟨_, fun _ _ _ r => r, rfl, 20, [(126, .comp (.poly (toR l)))], ?_⟩
    walk_at "w"
    refine ⟨h.1, ?_⟩
    walk_at "w"
    refine ⟨⟨by simp [toR], fun i hi => ?_⟩, cv_poly rfl h.2⟩
    have e : (toR l).getD i 0 = ((l.getD i 0 : Int) : Rat) := by
      unfold toR; simp [List.getD_eq_getElem?_getD, List.getElem?_eq_getElem hi]
    rw [e]
    walk_at "w"
    exact int_rat _
  · exact h.elim

theorem lcm_step (b d : Nat) : ((b : Int).fdiv (Int.gcd b d)) * d = Nat.lcm b d := by
  rw [Int.fdiv_eq_ediv_of_nonneg _ (by omega)]
  simp only [Int.gcd, Int.natAbs_natCast]
  rw [← Int.natCast_ediv, ← Int.natCast_mul]
  congr 1
  unfold Nat.lcm
  rw [Nat.mul_comm, ← Nat.mul_div_assoc _ (Nat.gcd_dvd_left b d), Nat.mul_comm]

theorem toz_vc : VcOk 38 [("len", sLen), ("gcd", sGcd), ("zcontent", sGcdAll), ("zprimitive", sZprimitive), ("rat", sRat)] ["q"] sToZ := by
  intro vs k h
  unfold sToZ at h
  split at h
  · rename_i q
    obtain ⟨h1, h2, h3, h⟩ := h
    have hs : q.length ≤ szL := Nat.le_trans h2 (by decide)
    refine ⟨_, fun _ _ _ r => r, rfl, 30, [(120, .loop Unit (fun _ _ => True) (fun i _ => ⟨[("q", .poly q), ("bottom", .int (bot (q.take i)))], none⟩) () fun _ _ => []), (122, .comp (.ilst (wh q)))], ?_⟩
    walk_at "w"
    refine ⟨hs, ?_⟩
    walk_at "w"
    refine ⟨fun hz => ?_, fun hz => ?_⟩
    · have hz : q = [] := List.length_eq_zero_iff.mp (by have : (q.length : Int) = 0 := of_decide_eq_true hz; omega)
      subst hz
      walk_at "w"
      exact ⟨.pair (.ilst []) (.rat 0), ⟨⟨rfl, rfl⟩, rfl⟩, h⟩
    · have hn : 0 < q.length := by have : ¬ (q.length : Int) = 0 := of_decide_eq_false hz
                                   omega
      have hne : q ≠ [] := by rintro rfl; simp at hn
      have hbb : ∀ i, intBits (bot (q.take i) : Int) ≤ 30000 := fun i => by
        have : (q.take i).length ≤ 20 := by simp; omega
        exact Nat.le_trans (bot_bits (hp_take h3)) (by omega)
      walk_at "w"
      refine ⟨hs, ?_⟩
      refine ⟨⟨trivial, ?_⟩, ?_, ?_⟩
      · walk_at "s"
      · intro i _ hi _
        have hi : i < q.length := hi
        have hq : co q i ∈ q := co_mem hi
        have hd : (co q i).den ≠ 0 := Rat.den_nz _
        have hg : Nat.gcd (bot (q.take i)) (co q i).den ≠ 0 := fun e => hd (Nat.eq_zero_of_gcd_eq_zero_right e)
        have hbits : intBits ((bot (q.take i) : Int).fdiv (Int.gcd (bot (q.take i)) (co q i).den)) ≤ 60000000 :=
          Nat.le_trans (intBits_fdiv_le (hbb i)) (by decide)
        have hdb : intBits ((co q i).den : Int) ≤ 60000000 := Nat.le_trans (hq_den (h3 _ hq)) (by decide)
        walk_at "w"
        walk_at "i"
        walk_at "w"
        refine ⟨by exact_mod_cast hg, ?_⟩
        walk_at "W"
        refine ⟨(), trivial, ?_⟩
        walk_at "s"
        rw [take_co hi, bot_snoc]
        exact lcm_step _ _
      · intro _ _
        walk_at "w"
        refine ⟨hs, ?_⟩
        walk_at "w"
        refine ⟨⟨wh_len q, fun i hi => ?_⟩, ?_⟩
        · have hi : i < q.length := hi
          rw [wh_at hi]
          have hq : co q i ∈ q := co_mem hi
          have hb1 := hbb q.length
          have hbits : intBits ((bot (q.take q.length) : Int).fdiv ((co q i).den : Int)) ≤ 60000000 := Nat.le_trans (intBits_fdiv_le hb1) (by decide)
          have hnb : intBits (co q i).num ≤ 60000000 := Nat.le_trans (hq_num (h3 _ hq)) (by decide)
          walk_at "w"
          walk_at "i"
          walk_at "w"
          walk_at "i"
          walk_at "w"
          refine ⟨den_ne _, ?_⟩
          walk_at "W"
          show _ = _
          rw [List.take_length, Int.fdiv_eq_ediv_of_nonneg _ (by omega)]
          push_cast
          rfl
        · walk_at "w"
          refine ⟨by rw [wh_len]; exact hs, ?_⟩
          walk_at "w"
          refine ⟨by rw [wh_len]; exact hs, fun _ => wh_gcd hne h1, ?_⟩
          walk_at "w"
          have hwl : 0 < (wh q).length := by rw [wh_len]; exact hn
          refine ⟨⟨by omega, by omega, by rw [wh_len]; exact hs⟩, ?_⟩
          rw [last_ix hwl]
          have hz0 : zrat q = Rat.divInt (zs (wh q)) (bot q) := by unfold zrat; rw [if_neg hne]
          have hb0 : (bot (q.take q.length) : Int) ≠ 0 := by exact_mod_cast bot_ne _
          walk_at "w"
          refine ⟨fun hp => ?_, fun hp => ?_⟩
          · have hp : 0 < (wh q).getD ((wh q).length - 1) 0 := of_decide_eq_true hp
            have e : zs (wh q) = gcdL (wh q) := by unfold zs; rw [if_pos hp]
            walk_at "w"
            refine ⟨hb0, ?_⟩
            walk_at "w"
            refine ⟨.pair (.ilst (prim q)) (.rat (zrat q)), ⟨rfl, ?_⟩, h⟩
            rw [hz0, e, List.take_length]; exact rfl
          · have hp : ¬ 0 < (wh q).getD ((wh q).length - 1) 0 := of_decide_eq_false hp
            have e : zs (wh q) = -(gcdL (wh q) : Int) := by unfold zs; rw [if_neg hp]
            walk_at "w"
            refine ⟨hb0, ?_⟩
            walk_at "w"
            refine ⟨.pair (.ilst (prim q)) (.rat (zrat q)), ⟨rfl, ?_⟩, h⟩
            rw [hz0, e, List.take_length]; exact rfl
  · exact h.elim
end Mine

namespace Mine
open Builtin.Int (intBits)
local macro_rules | `(tactic| walk_at "w") => `(tactic| conv => whnf)
local macro_rules | `(tactic| walk_at "s") => `(tactic| (
  (with_reducible show subS _ _)
  refine And.intro ?_ ?_
  (repeat' (first | exact True.intro | (refine And.intro ?_ ?_) | exact rfl))
  (try all_goals (conv => whnf))))
local macro_rules | `(tactic| walk_at "i") => `(tactic| first
  | refine ⟨fun _ => ?_, fun e => absurd e (by decide), .inl rfl⟩
  | refine ⟨fun e => absurd e (by decide), fun _ => ?_, .inr rfl⟩
  | refine ⟨mulOk (by assumption) (by assumption), ?_⟩)
local macro_rules | `(tactic| walk_at "W") => `(tactic| (walk_at "w"; repeat (walk_at "i"; walk_at "w")))

theorem cv_set {f : List Rat} {g : Nat → Rat} {j k : Nat} {x : Rat} (hj : j < f.length) (h0 : co f j = 0) : cv f.length (co (f.set j x)) g k = cv f.length (co f) g k + x * sh g j k := by
  unfold cv
  have : (fun i => co (f.set j x) i * sh g i k) = fun i => co f i * sh g i k + (if i = j then x else 0) * sh g i k := by
    funext i
    rw [co_set hj]
    split
    · rename_i e; subst e; rw [h0]; grind
    · grind
  rw [this, sm_add, sm_one (f := fun i => (if i = j then x else 0) * sh g i k) hj fun i _ hne => by rw [if_neg hne]; grind]
  rw [if_pos rfl]
theorem cv_trim {f : List Rat} {g : Nat → Rat} {k : Nat} : cv (trim f).length (co (trim f)) g k = cv f.length (co f) g k := by
  unfold cv
  rw [← sm_more (n := (trim f).length) (m := f.length) (f := fun i => co (trim f) i * sh g i k) (fun i hi => by rw [co_out hi]; grind) (trim_len f)]
  exact sm_congr fun i _ => by rw [co_trim]

/-- one step of the division -/
theorem div_step {a b rest found : List Rat} {c : Rat} (hb : b ≠ []) (hlen : b.length ≤ rest.length) (hL : rest.length + 1 - b.length ≤ found.length) (hc : c * co b (b.length - 1) = co rest (rest.length - 1))
    (hz : co found (rest.length - b.length) = 0) (h : ∀ k, co a k = cv found.length (co found) (co b) k + co rest k) (k : Nat) :
    co a k = cv found.length (co (found.set (rest.length - b.length) c)) (co b) k + co (psub (rest.take (rest.length - 1)) (praise (pscale (b.take (b.length - 1)) c) (rest.length - b.length))) k := by
  have lb : 0 < b.length := List.length_pos_iff.mpr hb
  rw [h k, cv_set (by omega) hz, co_psub, co_praise, co_pscale, co_take, co_take]
  have key : (if k < rest.length - 1 then co rest k else 0) - (if rest.length - b.length ≤ k then (if k - (rest.length - b.length) < b.length - 1 then co b (k - (rest.length - b.length)) else 0) * c else 0) = co rest k - c * sh (co b) (rest.length - b.length) k := by
    unfold sh
    by_cases h1 : k < rest.length - 1
    · rw [if_pos h1]
      by_cases h2 : rest.length - b.length ≤ k
      · rw [if_pos h2, if_pos h2, if_pos (by omega)]; grind
      · rw [if_neg h2, if_neg h2]; grind
    · rw [if_neg h1]
      have h2 : rest.length - b.length ≤ k := by omega
      rw [if_pos h2, if_pos h2, if_neg (by omega)]
      by_cases h3 : k = rest.length - 1
      · subst h3
        rw [show rest.length - 1 - (rest.length - b.length) = b.length - 1 by omega, hc]; grind
      · rw [co_out (p := rest) (by omega), co_out (p := b) (by omega)]; grind
  rw [key]
  grind

structure DM (a b q r : List Rat) : Prop where
  trq : Tr q
  trr : Tr r
  len : r.length < b.length
  qlen : q.length ≤ a.length + 1 - b.length
  hq : hp q 100000
  hr : hp r 100000
  eq : ∀ k, co a k = cv q.length (co q) (co b) k + co r k

noncomputable def sDivmod : Spec | [.poly a, .poly b], k => b ≠ [] ∧ Tr a ∧ Tr b ∧ a.length ≤ 8 ∧ hp a 50 ∧ b.length ≤ 4 ∧ hp b 3 ∧ (∀ q r, DM a b q r → k (.pair (.poly q) (.poly r))) | _, _ => False

noncomputable def bd (m : Nat) : Nat := 2 ^ m * 60 - 7
theorem bd_le {m : Nat} (h : m ≤ 8) : bd m ≤ 20000 ∧ 53 ≤ bd m := by
  have : m = 0 ∨ m = 1 ∨ m = 2 ∨ m = 3 ∨ m = 4 ∨ m = 5 ∨ m = 6 ∨ m = 7 ∨ m = 8 := by omega
  rcases this with rfl | rfl | rfl | rfl | rfl | rfl | rfl | rfl | rfl <;> decide
theorem bd_step {m n : Nat} (h : m < n) : 2 * bd m + 7 ≤ bd n := by
  have h1 : 2 ^ (m + 1) ≤ 2 ^ n := Nat.pow_le_pow_right (by decide) h
  have h2 : 0 < 2 ^ m := Nat.two_pow_pos m
  unfold bd
  rw [Nat.pow_succ] at h1
  omega

structure DI (a b : List Rat) (x : List Rat × List Rat) : Prop where
  tr : Tr x.1
  len : x.2.length = a.length + 1 - b.length
  le : x.1.length ≤ a.length
  hr : hp x.1 (bd (a.length - x.1.length))
  hf : hp x.2 100000
  eq : ∀ k, co a k = cv x.2.length (co x.2) (co b) k + co x.1 k
  z : ∀ j, j + b.length ≤ x.1.length → co x.2 j = 0

theorem hp_set {p : List Rat} {j N : Nat} {x : Rat} (h : hp p N) (hx : hq x ≤ N) : hp (p.set j x) N := fun q m => by
  rcases List.mem_or_eq_of_mem_set m with m | rfl
  · exact h q m
  · exact hx

theorem di_step {a b rest found : List Rat} (D : DI a b (rest, found)) (hb : b ≠ []) (tb : Tr b) (la : a.length ≤ 8) (hb3 : hp b 3) (hlen : b.length ≤ rest.length) :
    let c := co rest (rest.length - 1) / co b (b.length - 1)
    let lower := psub (rest.take (rest.length - 1)) (praise (pscale (b.take (b.length - 1)) c) (rest.length - b.length))
    hq c ≤ 20003 ∧ DI a b (lower, found.set (rest.length - b.length) c) ∧ lower.length < rest.length ∧ hp (praise (pscale (b.take (b.length - 1)) c) (rest.length - b.length)) 20010 := by
  intro c lower
  have lb : 0 < b.length := List.length_pos_iff.mpr hb
  have hle : rest.length ≤ a.length := D.le
  have Dr : hp rest (bd (a.length - rest.length)) := D.hr
  have Dl : found.length = a.length + 1 - b.length := D.len
  have De : ∀ k, co a k = cv found.length (co found) (co b) k + co rest k := D.eq
  have Dz : ∀ j, j + b.length ≤ rest.length → co found j = 0 := D.z
  have Df : hp found 100000 := D.hf
  have hbl := tb hb
  obtain ⟨b1, b2⟩ := bd_le (m := a.length - rest.length) (by omega)
  have hc : hq c ≤ bd (a.length - rest.length) + 3 := hq_div hbl (hq_co Dr (by omega) _) (hq_co hb3 (by decide) _)
  have hps : hp (praise (pscale (b.take (b.length - 1)) c) (rest.length - b.length)) (3 + (bd (a.length - rest.length) + 3)) :=
    hp_praise (hp_pscale (hp_take hb3) hc) (show 1 ≤ 3 + (bd (a.length - rest.length) + 3) by omega)
  have hll : lower.length ≤ rest.length - 1 := by
    refine Nat.le_trans padd_len ?_
    rw [pneg_len]
    have h1 : (praise (pscale (b.take (b.length - 1)) c) (rest.length - b.length)).length ≤ rest.length - 1 := by
      unfold praise
      split
      · simp
      · have := pscale_len (p := b.take (b.length - 1)) (r := c)
        simp at this ⊢; omega
    simp; omega
  have hlow : hp lower (bd (a.length - lower.length)) := by
    refine hp_mono (hp_psub (hp_take Dr) hps (by omega) (by omega)) ?_
    have := bd_step (m := a.length - rest.length) (n := a.length - lower.length) (by omega)
    omega
  refine ⟨by omega, ⟨tr_padd, ?_, ?_, hlow, hp_set Df (by omega), fun k => ?_, fun j hj => ?_⟩, by omega, hp_mono hps (by omega)⟩
  · show (found.set _ _).length = _
    rw [List.length_set]; exact Dl
  · show lower.length ≤ a.length; omega
  · have := div_step (a := a) (c := c) hb hlen (by omega) (by show co rest (rest.length - 1) / co b (b.length - 1) * _ = _; grind) (Dz _ (by omega)) De k
    show co a k = cv (found.set _ c).length _ _ _ + _
    rw [List.length_set]
    exact this
  · have hj : j + b.length ≤ lower.length := hj
    show co (found.set _ c) j = 0
    rw [co_set (by omega), if_neg (by omega)]
    exact Dz j (by omega)

theorem loOf_neg {n : Nat} : loOf n (-1) = n - 1 := by unfold loOf; rw [if_pos (by decide)]; omega

theorem qdivmod_vc : VcOk 30 [("len", sLen), ("list", sList), ("max", sMax), ("rdiv", sRdiv), ("qsub", sQsub), ("qraise", sQraise), ("qscale", sQscale), ("qtrim", sQtrim)] ["a", "b"] sDivmod := by
  intro vs k h
  unfold sDivmod at h
  split at h
  · rename_i a b
    obtain ⟨hb, ta, tb, la, ha, lb4, hb3, h⟩ := h
    have lb : 0 < b.length := List.length_pos_iff.mpr hb
    have sa : a.length ≤ szL := Nat.le_trans la (by decide)
    have sb : b.length ≤ szL := Nat.le_trans lb4 (by decide)
    have hbl := tb hb
    refine ⟨_, fun _ _ _ r => r, rfl, 30, [(86, .own), (87, .whl (List Rat × List Rat) (DI a b) (fun x => x.1.length) (fun x => ⟨[("b", .poly b), ("rest", .poly x.1)], some ("found", x.2)⟩) (a, List.replicate (a.length + 1 - b.length) 0) fun _ => [])], ?_⟩
    walk_at "w"
    refine ⟨sb, ?_⟩
    walk_at "w"
    refine ⟨fun e => absurd (show (b.length : Int) = 0 from of_decide_eq_true e) (by omega), fun _ => ?_⟩
    walk_at "w"
    refine ⟨sa, ?_⟩
    walk_at "w"
    refine ⟨sa, ?_⟩
    walk_at "w"
    refine ⟨sb, ?_⟩
    walk_at "w"
    have hmx : (if (0 : Int) < a.length - b.length + 1 then ((a.length : Int) - b.length + 1) else 0) = ((a.length + 1 - b.length : Nat) : Int) := by split <;> omega
    rw [hmx]
    refine ⟨⟨by simp; unfold szL; omega, by omega, by omega⟩, ?_⟩
    walk_at "w"
    refine ⟨⟨⟨ta, by simp, Nat.le_refl _, ?_, ?_, ?_, ?_⟩, ?_⟩, ?_⟩
    · exact hp_mono ha (by show 50 ≤ bd (a.length - a.length); rw [Nat.sub_self]; decide)
    · intro q m; rw [(List.mem_replicate.mp m).2]; exact Nat.le_trans hq_zero (by decide)
    · intro k
      rw [cv, sm_zero]
      · grind
      · intro i _
        have : co (List.replicate (a.length + 1 - b.length) (0 : Rat)) i = 0 := by
          simp only [co, List.getD_eq_getElem?_getD, List.getElem?_replicate]; split <;> rfl
        rw [this]; grind
    · intro j _
      simp only [co, List.getD_eq_getElem?_getD, List.getElem?_replicate]; split <;> rfl
    · walk_at "s"
      rw [flat_repl]; rfl
    · intro x D
      have Dl : x.1.length ≤ a.length := D.le
      have Df : x.2.length = a.length + 1 - b.length := D.len
      have Dr : hp x.1 (bd (a.length - x.1.length)) := D.hr
      have sr : x.1.length ≤ szL := Nat.le_trans Dl sa
      obtain ⟨b1, b2⟩ := bd_le (m := a.length - x.1.length) (by omega)
      walk_at "w"
      refine ⟨sr, ?_⟩
      walk_at "w"
      refine ⟨sb, ?_⟩
      walk_at "w"
      refine ⟨fun hge => ?_, fun hlt => ?_⟩
      · have hge : b.length ≤ x.1.length := Int.ofNat_le.mp (of_decide_eq_true hge)
        obtain ⟨s1, s2, s3, s4⟩ := di_step (rest := x.1) (found := x.2) D hb tb la hb3 hge
        walk_at "w"
        refine ⟨⟨by omega, by omega, sr⟩, ?_⟩
        walk_at "w"
        refine ⟨⟨by omega, by omega, sb⟩, ?_⟩
        rw [last_ix (by omega), last_ix lb]
        walk_at "w"
        refine ⟨hbl, Nat.le_trans (hq_co Dr (by omega) (x.1.length - 1)) (by omega), Nat.le_trans (hq_co hb3 (by decide) (b.length - 1)) (by decide), ?_⟩
        walk_at "w"
        refine ⟨sr, ?_⟩
        walk_at "w"
        refine ⟨sb, ?_⟩
        walk_at "w"
        refine ⟨⟨by omega, by omega, by rw [Df]; unfold szL; omega⟩, ?_⟩
        walk_at "w"
        refine ⟨by unfold small; omega, ?_⟩
        walk_at "w"
        refine ⟨sr, ?_⟩
        walk_at "w"
        refine ⟨by unfold small; omega, ?_⟩
        walk_at "w"
        refine ⟨sb, ?_⟩
        walk_at "w"
        rw [loOf_neg, loOf_neg]
        refine ⟨⟨by simp; omega, hp_mono (hp_take hb3) (by decide)⟩, Nat.le_trans s1 (by decide), ?_⟩
        walk_at "w"
        refine ⟨Nat.le_trans pscale_len (by simp; omega), by omega, by omega, ?_⟩
        have e : ((x.1.length : Int) - b.length).toNat = x.1.length - b.length := by omega
        rw [e]
        walk_at "w"
        refine ⟨⟨by simp; omega, hp_mono (hp_take Dr) (by omega)⟩, ⟨?_, hp_mono s4 (by decide)⟩, ?_⟩
        · show (praise _ _).length ≤ 64
          have := pscale_len (p := b.take (b.length - 1)) (r := x.1.getD (x.1.length - 1) 0 / b.getD (b.length - 1) 0)
          unfold praise
          split
          · simp
          · simp at this ⊢; omega
        · walk_at "w"
          refine ⟨(_, _), ⟨s2, s3⟩, ?_⟩
          walk_at "s"
      · have hlt : x.1.length < b.length := Nat.lt_of_not_le fun e => (of_decide_eq_false hlt : ¬ (b.length : Int) ≤ x.1.length) (Int.ofNat_le.mpr e)
        walk_at "w"
        refine ⟨by rw [Df]; unfold szL; omega, ?_⟩
        walk_at "w"
        refine ⟨.pair (.poly (trim x.2)) (.poly x.1), ⟨rfl, rfl⟩, h _ _ ⟨tr_trim _, D.tr, hlt, ?_, hp_trim D.hf, hp_mono Dr (by omega), fun k => ?_⟩⟩
        · exact Nat.le_trans (trim_len _) (by omega)
        · rw [cv_trim]; exact D.eq k
  · exact h.elim
end Mine

namespace Mine
open Builtin.Int (intBits)
local macro_rules | `(tactic| walk_at "w") => `(tactic| conv => whnf)
local macro_rules | `(tactic| walk_at "s") => `(tactic| (
  (with_reducible show subS _ _)
  refine And.intro ?_ ?_
  (repeat' (first | exact True.intro | (refine And.intro ?_ ?_) | exact rfl))
  (try all_goals (conv => whnf))))
local macro_rules | `(tactic| walk_at "i") => `(tactic| first
  | refine ⟨fun _ => ?_, fun e => absurd e (by decide), .inl rfl⟩
  | refine ⟨fun e => absurd e (by decide), fun _ => ?_, .inr rfl⟩
  | refine ⟨mulOk (by assumption) (by assumption), ?_⟩)
local macro_rules | `(tactic| walk_at "W") => `(tactic| (walk_at "w"; repeat (walk_at "i"; walk_at "w")))

noncomputable def Sma (p : List Rat) : Prop := Tr p ∧ p.length ≤ 4 ∧ hp p 3
noncomputable def sQgcd : Spec | [.poly a, .poly b], k => Sma a ∧ Sma b ∧ (a = [] ∨ b = []) ∧ k (.poly (pmonic (if b = [] then a else b))) | _, _ => False
theorem Sma.ok {p : List Rat} (h : Sma p) : Ok p := ⟨by have := h.2.1; omega, hp_mono h.2.2 (by decide)⟩
theorem Sma.okM {p : List Rat} (h : Sma p) : OkM p := ⟨by have := h.2.1; omega, hp_mono h.2.2 (by decide)⟩
theorem sma_nil : Sma [] := ⟨tr_nil, by simp, hp_nil _⟩

theorem dm_nil {c q r : List Rat} (hc : c ≠ []) (h : DM [] c q r) : r = [] := by
  have hl : 0 < c.length := List.length_pos_iff.mpr hc
  have hq : q = [] := List.length_eq_zero_iff.mp (by have := h.qlen; simp at this; omega)
  subst hq
  refine tr_ext h.trr tr_nil fun i => ?_
  have := h.eq i
  simp [cv, sm] at this
  rw [co_nil, this]; exact (Rat.zero_add _).symm
theorem qgcd_vc : VcOk 32 [("len", sLen), ("qmonic", sQmonic), ("qdivmod", sDivmod)] ["a", "b"] sQgcd := by
  intro vs k h
  unfold sQgcd at h
  split at h
  · rename_i a b
    obtain ⟨ha, hb, hab, h⟩ := h
    generalize hc : (if b = [] then a else b) = c at h
    have sc : Sma c := by rw [← hc]; split <;> assumption
    refine ⟨_, fun _ _ _ r => r, rfl, 30, [(96, .whl (List Rat × List Rat) (fun x => (x.1 = [] ∧ x.2 = c) ∨ (x.1 = c ∧ x.2 = [])) (fun x => x.2.length) (fun x => ⟨[("a", .poly x.1), ("b", .poly x.2)], none⟩) (a, b) fun _ => [])], ?_⟩
    walk_at "w"
    refine ⟨⟨?_, by walk_at "s"⟩, ?_⟩
    · show (a = [] ∧ b = c) ∨ (a = c ∧ b = [])
      rcases hab with e | e
      · by_cases hb0 : b = []
        · rw [if_pos hb0] at hc; exact .inr ⟨hc, hb0⟩
        · rw [if_neg hb0] at hc; exact .inl ⟨e, hc⟩
      · rw [if_pos e] at hc; exact .inr ⟨hc, e⟩
    · intro x hI
      have hx : x.2.length ≤ szL := by
        rcases hI with ⟨_, e⟩ | ⟨_, e⟩
        · rw [e]; exact sc.ok.sz
        · rw [e]; simp
      walk_at "w"
      refine ⟨hx, ?_⟩
      walk_at "w"
      refine ⟨fun hn => ?_, fun hn => ?_⟩
      · have hn : (0 : Int) < x.2.length := of_decide_eq_true hn
        rcases hI with ⟨e1, e2⟩ | ⟨_, e⟩
        · have hne : c ≠ [] := by rintro rfl; rw [e2] at hn; simp at hn
          walk_at "w"
          rw [e1, e2]
          refine ⟨hne, tr_nil, sc.1, by simp, hp_nil _, sc.2.1, sc.2.2, fun q r hD => ?_⟩
          have hr := dm_nil hne hD
          subst hr
          walk_at "w"
          refine ⟨fun e => absurd e (by decide), fun _ => ?_, .inr rfl⟩
          walk_at "w"
          refine ⟨sma_nil.ok, tr_nil, ?_⟩
          walk_at "w"
          refine ⟨(c, []), ⟨.inr ⟨rfl, rfl⟩, ?_⟩, ?_⟩
          · show ([] : List Rat).length < x.2.length; simp; omega
          · walk_at "s"
        · rw [e] at hn; simp at hn
      · have hn : ¬ (0 : Int) < x.2.length := of_decide_eq_false hn
        have e2 : x.2 = [] := List.length_eq_zero_iff.mp (by omega)
        have e1 : x.1 = c := by
          rcases hI with ⟨e1, e⟩ | ⟨e1, _⟩
          · rw [e1, ← e, e2]
          · exact e1
        walk_at "w"
        rw [e1]
        exact ⟨sc.ok, sc.1, cv_poly rfl h⟩
  · exact h.elim

noncomputable def sTake : Spec | [.box, .int m], k => 0 < m ∧ m ≤ 100 ∧ ∀ c : Int, 0 ≤ c → c < m → k (.int c) | _, _ => False
noncomputable def sRow : Spec | [.box], k => ∀ p, Sma p → k (.poly p) | _, _ => False

theorem hp_append {p q : List Rat} {N : Nat} (h1 : hp p N) (h2 : hp q N) : hp (p ++ q) N := fun x m => (List.mem_append.mp m).elim (h1 x) (h2 x)
theorem lrow_vc : VcOk 43 [("_law_take", sTake), ("_law_ratio", sRat)] ["box"] sRow := by
  intro vs k h
  unfold sRow at h
  split at h
  · refine ⟨_, fun _ _ _ r => r, rfl, 30, [(139, .own), (140, .loop (List Rat) (fun i x => x.length = i ∧ hp x 3) (fun _ x => ⟨[("box", .box)], some ("found", x)⟩) [] fun _ _ => []),
      (142, .whe (List Rat) (fun x => x.length ≤ 4 ∧ hp x 3) (fun x => x.length) (fun x => ⟨[("box", .box)], some ("found", x)⟩) fun _ => [])], ?_⟩
    walk_at "w"
    refine ⟨by decide, by decide, fun c c0 c5 => ?_⟩
    walk_at "w"
    refine ⟨⟨by unfold small; omega, by unfold szL; omega⟩, ?_⟩
    walk_at "w"
    refine ⟨⟨⟨rfl, hp_nil _⟩, by walk_at "s"⟩, ?_, ?_⟩
    · intro i x hi hI
      have hi : i < c.toNat := hi
      walk_at "w"
      refine ⟨by decide, by decide, fun t t0 t7 => ?_⟩
      walk_at "w"
      refine ⟨by decide, by decide, fun u u0 u4 => ?_⟩
      walk_at "w"
      have hb : (1 : Int) + u ≠ 0 := by omega
      refine ⟨hb, ?_⟩
      walk_at "w"
      refine ⟨by rw [hI.1]; unfold szL; omega, ?_⟩
      refine ⟨x ++ [Rat.divInt (t - 3) (1 + u)], ⟨by simp [hI.1], hp_append hI.2 (hp_cons (hq_divInt hb (bits_small (by omega)) (bits_small (by omega))) (hp_nil _))⟩, ?_⟩
      walk_at "s"
    · intro x hI
      walk_at "w"
      refine ⟨⟨x, ⟨by rw [hI.1]; omega, hI.2⟩, by walk_at "s"⟩, ?_⟩
      intro y ⟨hy, hy3⟩
      walk_at "w"
      refine ⟨fun hn => ?_, fun hn => ?_⟩
      · have hn : y = [] := by
          have : (!decide (y = [])) = false := hn
          simpa using this
        walk_at "w"
        refine ⟨fun e => absurd e (by decide), fun _ => ?_⟩
        walk_at "w"
        exact cv_poly rfl (h y (hn ▸ sma_nil))
      · have hn : y ≠ [] := by
          have : (!decide (y = [])) = true := hn
          simpa using this
        have hl : 0 < y.length := List.length_pos_iff.mpr hn
        walk_at "w"
        refine ⟨⟨by omega, by omega, by unfold szL; omega⟩, ?_⟩
        rw [last_ix hl]
        walk_at "W"
        refine ⟨fun hz => ?_, fun hz => ?_⟩
        · have hz : (co y (y.length - 1)).num ≠ 0 := of_decide_eq_false hz
          walk_at "w"
          refine ⟨fun e => absurd e (by decide), fun _ => ?_⟩
          walk_at "w"
          exact cv_poly rfl (h y ⟨fun _ e => hz (Rat.num_eq_zero.mpr e), hy, hy3⟩)
        · walk_at "w"
          refine ⟨fun _ => ?_, fun e => absurd e (by decide)⟩
          walk_at "w"
          refine ⟨⟨hn, by unfold szL; omega⟩, ?_⟩
          refine ⟨y.dropLast, ⟨⟨by simp; omega, fun q m => hy3 q (by rw [List.dropLast_eq_take] at m; exact List.mem_of_mem_take m)⟩, by simp; omega⟩, ?_⟩
          walk_at "s"
  · exact h.elim

noncomputable def sWorth : Spec | [.poly p, y], k => asRat y fun r => p.length ≤ 20 ∧ hp p 200000 ∧ hq r ≤ 10000 ∧ k (.rat (ev p r)) | _, _ => False

theorem ev_snoc {r : Rat} : ∀ {l : List Rat} {x : Rat}, ev (l ++ [x]) r = ev l r + x * r ^ l.length
  | [], x => by simp [ev]
  | y :: l, x => by
    rw [List.cons_append, ev, ev_snoc, ev, List.length_cons, Rat.pow_succ]; grind
structure WI (p : List Rat) (r : Rat) (i : Nat) (x : (Int × Int) × (Int × Int)) : Prop where
  b0 : x.1.2 ≠ 0
  d0 : x.2.2 ≠ 0
  e1 : Rat.divInt x.1.1 x.1.2 = ev (p.take i) r
  e2 : Rat.divInt x.2.1 x.2.2 = r ^ i
  t : intBits x.1.1 ≤ i * 600000 + 1
  b : intBits x.1.2 ≤ i * 600000 + 1
  u : intBits x.2.1 ≤ i * 10000 + 1
  d : intBits x.2.2 ≤ i * 10000 + 1
theorem wi_zero (p : List Rat) (r : Rat) : WI p r 0 ((0, 1), (1, 1)) :=
  ⟨by decide, by decide, by show Rat.divInt 0 1 = 0; decide, by rw [Rat.pow_zero]; show Rat.divInt 1 1 = 1; decide, by decide, by decide, by decide, by decide⟩
theorem wi_step {p : List Rat} {r : Rat} {i : Nat} {x : (Int × Int) × (Int × Int)} (h : WI p r i x) (hi : i < p.length) (hl : p.length ≤ 20) (hp2 : hp p 200000) (hr : hq r ≤ 10000) :
    WI p r (i + 1) ((x.1.1 * (co p i).den * x.2.2 + (co p i).num * x.2.1 * x.1.2, x.1.2 * (co p i).den * x.2.2), (x.2.1 * r.num, x.2.2 * r.den)) := by
  have hc : hq (co p i) ≤ 200000 := hp2 _ (co_mem hi)
  have n1 := hq_num hc
  have n2 := hq_den hc
  have hd := den_ne (co p i)
  refine ⟨Int.mul_ne_zero (Int.mul_ne_zero h.b0 hd) h.d0, Int.mul_ne_zero h.d0 (den_ne r), ?_, ?_, ?_, ?_, ?_, ?_⟩
  · rw [take_co hi, ev_snoc, ← h.e1, List.length_take, Nat.min_eq_left (by omega), ← h.e2]
    conv => rhs; rw [← Rat.num_divInt_den (co p i)]
    rw [Rat.divInt_mul_divInt, Rat.divInt_add_divInt _ _ h.b0 (Int.mul_ne_zero hd h.d0)]
    congr 1 <;> grind
  · show Rat.divInt (x.2.1 * r.num) (x.2.2 * r.den) = _
    rw [Rat.pow_succ, ← h.e2, ← Rat.divInt_mul_divInt, Rat.num_divInt_den]
  · refine Nat.le_trans (intBits_add_le (intBits_mul_le (intBits_mul_le h.t n2) h.d) (intBits_mul_le (intBits_mul_le n1 h.u) h.b)) ?_
    omega
  · refine Nat.le_trans (intBits_mul_le (intBits_mul_le h.b n2) h.d) ?_
    omega
  · exact Nat.le_trans (intBits_mul_le h.u (hq_num hr)) (by omega)
  · exact Nat.le_trans (intBits_mul_le h.d (hq_den hr)) (by omega)

theorem lworth_vc : VcOk 46 [("_law_ratio", sRat)] ["row", "r"] sWorth := by
  intro vs k h
  unfold sWorth at h
  split at h
  · rename_i p y
    obtain ⟨r, ⟨h1, h2, h3, h⟩, hc⟩ := asRat_ok h
    have hs : p.length ≤ szL := Nat.le_trans h1 (by decide)
    refine ⟨[.poly p, .rat r], fun X hh ws q => ?_, rfl, 30, [(151, .loop ((Int × Int) × (Int × Int)) (WI p r) (fun _ x => ⟨[("top", .int x.1.1), ("bottom", .int x.1.2), ("up", .int x.2.1), ("down", .int x.2.2), ("r", .rat r)], none⟩) ((0, 1), (1, 1)) fun _ _ => [])], ?_⟩
    · obtain ⟨u, v, rfl, a, b⟩ := q.two
      exact ⟨a, hc _ _ _ b, trivial⟩
    walk_at "w"
    refine ⟨hs, ?_⟩
    refine ⟨⟨wi_zero p r, by walk_at "s"⟩, ?_, ?_⟩
    · intro i x hi hI
      have hi : i < p.length := hi
      have hc : hq (co p i) ≤ 200000 := h2 _ (co_mem hi)
      have q1 := hI.t
      have q2 := hI.b
      have q3 := hI.u
      have q4 := hI.d
      have n1 := hq_num hc
      have n2 := hq_den hc
      have f1 : intBits x.1.1 ≤ 60000000 := by omega
      have f2 : intBits x.1.2 ≤ 60000000 := by omega
      have f3 : intBits x.2.1 ≤ 60000000 := by omega
      have f4 : intBits x.2.2 ≤ 60000000 := by omega
      have f5 : intBits (co p i).num ≤ 60000000 := by omega
      have f6 : intBits ((co p i).den : Int) ≤ 60000000 := by omega
      have f7 : intBits (x.1.1 * (co p i).den) ≤ 60000000 := Nat.le_trans (intBits_mul_le q1 n2) (by omega)
      have f8 : intBits ((co p i).num * x.2.1) ≤ 60000000 := Nat.le_trans (intBits_mul_le n1 q3) (by omega)
      have f9 : intBits (x.1.2 * (co p i).den) ≤ 60000000 := Nat.le_trans (intBits_mul_le q2 n2) (by omega)
      have g1 : intBits r.num ≤ 60000000 := Nat.le_trans (hq_num h3) (by decide)
      have g2 : intBits (r.den : Int) ≤ 60000000 := Nat.le_trans (hq_den h3) (by decide)
      walk_at "W"
      refine ⟨_, wi_step hI hi h1 h2 h3, ?_⟩
      walk_at "s"
    · intro x hI
      walk_at "w"
      refine ⟨hI.b0, cv_q ?_ h⟩
      rw [hI.e1, List.take_length]
  · exact h.elim
end Mine

namespace Mine
open Builtin.Int (intBits)
local macro_rules | `(tactic| walk_at "w") => `(tactic| conv => whnf)
local macro_rules | `(tactic| walk_at "s") => `(tactic| (
  (with_reducible show subS _ _)
  refine And.intro ?_ ?_
  (repeat' (first | exact True.intro | (refine And.intro ?_ ?_) | exact rfl))
  (try all_goals (conv => whnf))))
local macro_rules | `(tactic| walk_at "i") => `(tactic| first
  | refine ⟨fun _ => ?_, fun e => absurd e (by decide), .inl rfl⟩
  | refine ⟨fun e => absurd e (by decide), fun _ => ?_, .inr rfl⟩
  | refine ⟨mulOk (by assumption) (by assumption), ?_⟩)
local macro_rules | `(tactic| walk_at "W") => `(tactic| (walk_at "w"; repeat (walk_at "i"; walk_at "w")))

noncomputable def sSlope : Spec | [.poly p], k => p.length ≤ 20 ∧ hp p 1000 ∧ k (.poly (pder p)) | _, _ => False

theorem pder_take {p : List Rat} {i : Nat} (hi : i + 1 < p.length) : (pder p).take (i + 1) = (pder p).take i ++ [co p (i + 1) * ((i + 1 : Nat) : Rat)] := by
  rw [take_co (by rw [pder_len]; omega), co_pder]
  push_cast
  rfl
theorem lslope_vc : VcOk 48 [("len", sLen), ("_law_sum", sBin (· + ·))] ["row"] sSlope := by
  intro vs k h
  unfold sSlope at h
  split at h
  · rename_i p
    obtain ⟨h1, h2, h⟩ := h
    have hs : p.length ≤ szL := Nat.le_trans h1 (by decide)
    have hix : ∀ i : Nat, i + 1 < p.length → ixOf p.length (1 + (i : Int)) = i + 1 := fun i hi => by unfold ixOf; rw [if_neg (by omega)]; omega
    refine ⟨_, fun _ _ _ r => r, rfl, 30, [(158, .own), (159, .loop Unit (fun _ _ => True) (fun i _ => ⟨[("row", .poly p)], some ("found", (pder p).take i)⟩) () (fun i _ =>
      [(161, .loop Unit (fun _ _ => True) (fun j _ => ⟨[("row", .poly p), ("at", .int (1 + i)), ("worth", .rat (co p (i + 1) * ((j : Nat) : Rat)))], some ("found", (pder p).take i)⟩) () fun _ _ => [])]))], ?_⟩
    walk_at "w"
    refine ⟨hs, ?_⟩
    walk_at "w"
    refine ⟨⟨by unfold small; omega, by unfold small; omega, by unfold szL; omega⟩, ?_⟩
    walk_at "w"
    refine ⟨⟨trivial, ?_⟩, ?_, ?_⟩
    · walk_at "s"
    · intro i _ hi _
      have hi : i + 1 < p.length := by
        have : i < ((p.length : Int) - 1).toNat := hi
        omega
      walk_at "w"
      refine ⟨⟨by unfold small; omega, by unfold szL; omega⟩, ?_⟩
      refine ⟨⟨trivial, ?_⟩, ?_, ?_⟩
      · have e : co p (i + 1) * ((0 : Nat) : Rat) = 0 := by
          have : ((0 : Nat) : Rat) = 0 := rfl
          rw [this]; grind
        walk_at "s"
        · exact congrArg Rat.num e
        · exact congrArg (fun q : Rat => (q.den : Int)) e
      · intro j _ hj _
        have hj : j < (1 + (i : Int)).toNat := hj
        walk_at "w"
        refine ⟨⟨by omega, by omega, hs⟩, ?_⟩
        rw [hix i hi]
        walk_at "w"
        refine ⟨?_, Nat.le_trans (hq_co h2 (by decide) (i + 1)) (by decide), ?_⟩
        · refine Nat.le_trans (hq_mul (hq_co h2 (by decide) (i + 1)) (show hq ((j : Nat) : Rat) ≤ 100 from ?_)) (by decide)
          have e : ((j : Nat) : Rat) = (((j : Nat) : Int) : Rat) := by push_cast; rfl
          rw [e]
          refine hq_of ?_ ?_
          · rw [(int_rat _).1]; exact Nat.le_trans (bits_small (n := 10) (by omega)) (by decide)
          · rw [(int_rat _).2]; decide
        · walk_at "w"
          refine ⟨(), trivial, ?_⟩
          walk_at "s"
          show co p (i + 1) * _ + co p (i + 1) = _
          push_cast
          grind
      · intro _ _
        walk_at "w"
        refine ⟨by simp; unfold szL; omega, ?_⟩
        refine ⟨(), trivial, ?_⟩
        walk_at "s"
        rw [pder_take hi, show (1 + (i : Int)).toNat = i + 1 by omega]
    · intro _ _
      walk_at "w"
      refine cv_poly ?_ h
      rw [List.take_of_length_le]
      rw [pder_len]; omega
  · exact h.elim

noncomputable def bG (q b r : List Rat) (i j : Nat) : List Rat := (List.range (q.length + b.length - 1)).map fun k => co r k + (cv i (co q) (co b) k + (if i ≤ k ∧ k - i < j then co q i * co b (k - i) else 0))
noncomputable def backP (q b r : List Rat) : List Rat := if q = [] then r else bG q b r q.length 0
noncomputable def sBack : Spec | [.poly q, .poly b, .poly r], k => q.length ≤ 8 ∧ b.length ≤ 4 ∧ r.length < b.length ∧ hp q 100000 ∧ hp b 3 ∧ hp r 100000 ∧ k (.poly (backP q b r)) | _, _ => False
theorem bG_co {q b r : List Rat} {i j k : Nat} (hk : k < q.length + b.length - 1) : co (bG q b r i j) k = co r k + co (mG q b i j) k := by
  unfold bG mG
  rw [co_map, co_map, if_pos hk, if_pos hk]
theorem bG_len (q b r : List Rat) (i j : Nat) : (bG q b r i j).length = q.length + b.length - 1 := by simp [bG]
theorem mG_len (q b : List Rat) (i j : Nat) : (mG q b i j).length = q.length + b.length - 1 := by simp [mG]
theorem bG_all (q b r : List Rat) (i : Nat) : bG q b r i b.length = bG q b r (i + 1) 0 := by
  refine ext_co (by rw [bG_len, bG_len]) fun k hk => ?_
  rw [bG_len] at hk
  rw [bG_co hk, bG_co hk, mG_all, mG_zero]
theorem bG_succ (q b r : List Rat) {i j : Nat} (hi : i < q.length) (hj : j < b.length) : (bG q b r i j).set (i + j) (co (bG q b r i j) (i + j) + co q i * co b j) = bG q b r i (j + 1) := by
  refine ext_co (by rw [List.length_set, bG_len, bG_len]) fun k hk => ?_
  rw [List.length_set, bG_len] at hk
  rw [co_set (by rw [bG_len]; omega), bG_co hk, bG_co hk, bG_co (by omega), ← mG_succ q b hi hj, co_set (by rw [mG_len]; omega)]
  split <;> grind
theorem back_first {q b r : List Rat} (hq : q ≠ []) (hr : r.length < b.length) : r ++ List.replicate (q.length + b.length - 1 - r.length) 0 = bG q b r 0 0 := by
  have lq : 0 < q.length := List.length_pos_iff.mpr hq
  refine ext_co (by rw [bG_len]; simp; omega) fun k hk => ?_
  have hk : k < q.length + b.length - 1 := by simp at hk; omega
  rw [bG_co hk, mG_zero, co_append]
  have : co (mF q b 0) k = 0 := by unfold mF; rw [co_map, if_pos hk]; rfl
  rw [this]
  split
  · grind
  · rename_i h
    rw [co_out (p := r) (by omega)]
    have : co (List.replicate (q.length + b.length - 1 - r.length) (0 : Rat)) (k - r.length) = 0 := by
      simp only [co, List.getD_eq_getElem?_getD, List.getElem?_replicate]; split <;> rfl
    rw [this]; grind

theorem lback_vc : VcOk 51 [("len", sLen), ("_law_sum", sBin (· + ·)), ("_law_times", sBin (· * ·))] ["quotient", "b", "rest"] sBack := by
  intro vs k h
  unfold sBack at h
  split at h
  · rename_i q b r
    obtain ⟨lq, lb, lr, hq1, hb3, hr1, h⟩ := h
    have sq : q.length ≤ szL := Nat.le_trans lq (by decide)
    have sb : b.length ≤ szL := Nat.le_trans lb (by decide)
    have sr : r.length ≤ szL := by unfold szL; omega
    refine ⟨_, fun _ _ _ r => r, rfl, 30, [(194, .own), (195, .loop Unit (fun _ _ => True) (fun i _ => ⟨[("quotient", .poly q), ("b", .poly b)], some ("found", if q = [] then r else bG q b r i 0)⟩) () (fun i _ =>
      [(196, .loop Unit (fun _ _ => True) (fun j _ => ⟨[("quotient", .poly q), ("b", .poly b), ("at", .int i), ("one", .rat (co q i))], some ("found", bG q b r i j)⟩) () fun _ _ => [])]))], ?_⟩
    walk_at "w"
    refine ⟨fun hn => ?_, fun hn => ?_⟩
    · have hn : q ≠ [] := by
        have : (!decide (q = [])) = true := hn
        simpa using this
      have lq0 : 0 < q.length := List.length_pos_iff.mpr hn
      walk_at "w"
      refine ⟨sq, ?_⟩
      walk_at "w"
      refine ⟨sb, ?_⟩
      walk_at "w"
      refine ⟨0, ⟨rfl, rfl⟩, ?_⟩
      walk_at "w"
      refine ⟨sr, ?_⟩
      walk_at "w"
      refine ⟨⟨by simp; unfold szL; omega, by omega, by omega⟩, ?_⟩
      walk_at "w"
      refine ⟨by rw [flat_repl]; simp; unfold szL; omega, ?_⟩
      walk_at "w"
      refine ⟨sq, ?_⟩
      refine ⟨⟨trivial, ?_⟩, ?_, ?_⟩
      · walk_at "s"
        rw [if_neg hn, flat_repl, ← back_first hn lr]
        congr 2
        omega
      · intro i _ hi _
        have hi : i < q.length := hi
        walk_at "w"
        refine ⟨sb, ?_⟩
        refine ⟨⟨trivial, ?_⟩, ?_, ?_⟩
        · walk_at "s"
          rw [if_neg hn]
        · intro j _ hj _
          have hj : j < b.length := hj
          have hlen := bG_len q b r i j
          have hix : ixOf (bG q b r i j).length ((i : Int) + j) = i + j := by unfold ixOf; rw [if_neg (by omega)]; omega
          walk_at "w"
          refine ⟨⟨by rw [hlen]; omega, by rw [hlen]; omega, by rw [hlen]; unfold szL; omega⟩, ?_⟩
          walk_at "w"
          refine ⟨Nat.le_trans (hq_co hq1 (by decide) i) (by decide), Nat.le_trans (hq_co hb3 (by decide) j) (by decide), ?_⟩
          walk_at "w"
          rw [hix, show (bG q b r i j).getD (i + j) 0 = co (bG q b r i j) (i + j) from rfl]
          refine ⟨?_, ?_, ?_⟩
          · rw [bG_co (by omega), mG_at q b hi hj]
            have hcv : hq (cv i (co q) (co b) (i + j)) ≤ i * (100000 + 3 + 1) + 1 := hq_cv hq1 hb3 (by decide) (by decide) i _
            have h3 : i * 100004 + 1 ≤ 1000000 := by omega
            exact Nat.le_trans (hq_add (hq_co hr1 (by decide) (i + j)) (Nat.le_trans hcv h3)) (by decide)
          · exact Nat.le_trans (hq_mul (hq_co hq1 (by decide) i) (hq_co hb3 (by decide) j)) (by decide)
          · walk_at "w"
            refine ⟨⟨by omega, by rw [hlen]; omega, by rw [hlen]; unfold szL; omega⟩, (), trivial, ?_⟩
            walk_at "s"
            have := bG_succ q b r hi hj
            rw [show ((i : Int) + j).toNat = i + j by omega]
            exact this
        · intro _ _
          refine ⟨(), trivial, ?_⟩
          walk_at "s"
          rw [if_neg hn]
          exact bG_all q b r i
      · intro _ _
        walk_at "w"
        refine cv_poly ?_ h
        unfold backP
        rw [if_neg hn]
    · have hn : q = [] := by
        have : (!decide (q = [])) = false := hn
        simpa using this
      walk_at "w"
      refine ⟨0, ⟨rfl, rfl⟩, ?_⟩
      walk_at "w"
      refine ⟨sr, ?_⟩
      walk_at "w"
      have e0 : ((0 : Int) - r.length).toNat = 0 := by omega
      refine ⟨⟨by rw [e0]; simp, by omega, by omega⟩, ?_⟩
      walk_at "w"
      refine ⟨by rw [flat_repl, e0]; simp; exact sr, ?_⟩
      walk_at "w"
      refine ⟨sq, ?_⟩
      refine ⟨⟨trivial, ?_⟩, ?_, ?_⟩
      · walk_at "s"
        rw [if_pos hn, flat_repl, e0]
        simp
      · intro i _ hi _
        have hi : i < q.length := hi
        rw [hn] at hi
        simp at hi
      · intro _ _
        walk_at "w"
        refine cv_poly ?_ h
        unfold backP
        rw [if_pos hn]
  · exact h.elim
end Mine

namespace Mine
open Builtin.Int (intBits)
local macro_rules | `(tactic| walk_at "w") => `(tactic| conv => whnf)
local macro_rules | `(tactic| walk_at "s") => `(tactic| (
  (with_reducible show subS _ _)
  refine And.intro ?_ ?_
  (repeat' (first | exact True.intro | (refine And.intro ?_ ?_) | exact rfl))
  (try all_goals (conv => whnf))))
local macro_rules | `(tactic| walk_at "i") => `(tactic| first
  | refine ⟨fun _ => ?_, fun e => absurd e (by decide), .inl rfl⟩
  | refine ⟨fun e => absurd e (by decide), fun _ => ?_, .inr rfl⟩
  | refine ⟨mulOk (by assumption) (by assumption), ?_⟩)
local macro_rules | `(tactic| walk_at "W") => `(tactic| (walk_at "w"; repeat (walk_at "i"; walk_at "w")))

noncomputable def madeL (a b : List Rat) : List (List Rat) := [padd a b, psub a b, pmul a b, pneg a, ppow a 2, pcomp a b, ppow a 0]
noncomputable def sValues : Spec | [.poly a, .poly b, .polys m, .rat r], k => Sma a ∧ Sma b ∧ m = madeL a b ∧ hq r ≤ 3 ∧ k (.bool true) | _, _ => False

theorem made_ev (a b : List Rat) (r : Rat) : (madeL a b).map (fun p => ev p r) = [ev a r + ev b r, ev a r + -ev b r, ev a r * ev b r, -ev a r, ev a r * ev a r, ev a (ev b r), 1] := by
  simp only [madeL, List.map_cons, List.map_nil, ev_padd, ev_psub, ev_pmul, ev_pneg, ev_pcomp, ppow, ev_one]
  congr 1
  congr 1
  · grind
  congr 1
  congr 1
  congr 1
  grind
theorem made_ok {a b : List Rat} (ha : Sma a) (hb : Sma b) : ∀ p ∈ madeL a b, Tr p ∧ p.length ≤ 20 ∧ hp p 200000 := by
  have l1 := ha.2.1
  have l2 := hb.2.1
  have h0 : hp ([1] : List Rat) 1 := hp_cons hq_one (hp_nil _)
  have hpm : ∀ {x y : List Rat} {m n : Nat}, x.length ≤ 8 → hp x m → hp y n → 1 ≤ m → 1 ≤ n → m + n ≤ 1000 → hp (pmul x y) 200000 := fun {x y m n} hl hx hy hm hn h => by
    refine hp_mono (hp_pmul hx hy hm hn) ?_
    have : x.length * (m + n + 1) ≤ 8 * 1001 := Nat.mul_le_mul hl (by omega)
    omega
  intro p hp'
  simp only [madeL, List.mem_cons, List.not_mem_nil, or_false] at hp'
  rcases hp' with rfl | rfl | rfl | rfl | rfl | rfl | rfl
  · exact ⟨tr_padd, Nat.le_trans padd_len (by omega), hp_mono (hp_padd ha.2.2 hb.2.2 (by decide) (by decide)) (by decide)⟩
  · exact ⟨tr_padd, Nat.le_trans padd_len (by rw [pneg_len]; omega), hp_mono (hp_psub ha.2.2 hb.2.2 (by decide) (by decide)) (by decide)⟩
  · exact ⟨tr_pmul ha.1 hb.1, Nat.le_trans pmul_le (by omega), hpm (by omega) ha.2.2 hb.2.2 (by decide) (by decide) (by decide)⟩
  · exact ⟨tr_pneg ha.1, by rw [pneg_len]; omega, hp_mono (hp_pneg ha.2.2) (by decide)⟩
  · have e1 : hp (ppow a 1) 6 := hp_mono (hp_pmul (a := ppow a 0) h0 ha.2.2 (by decide) (by decide)) (by show 1 * (1 + 3 + 1) + 1 ≤ 6; omega)
    have e2 : (ppow a 1).length ≤ 4 := Nat.le_trans (pmul_le (a := ppow a 0)) (by show 1 + a.length - 1 ≤ 4; omega)
    exact ⟨tr_ppow ha.1 2, Nat.le_trans (pmul_le (a := ppow a 1)) (by omega), hpm (x := ppow a 1) (by omega) e1 ha.2.2 (by decide) (by decide) (by decide)⟩
  · obtain ⟨g1, g2⟩ := pcomp_ok hb.2.1 hb.2.2 (a := a) l1 ha.2.2
    exact ⟨tr_pcomp, by omega, hp_mono g2 (nb_le l1)⟩
  · exact ⟨tr_one, by show 1 ≤ 20; decide, hp_mono h0 (by decide)⟩

theorem sma_ev {p : List Rat} {r : Rat} {M : Nat} (h : Sma p) (hr : hq r ≤ M) : hq (ev p r) ≤ 4 * (M + 4) + 1 := by
  refine Nat.le_trans (hq_ev hr h.2.2) ?_
  have : p.length * (3 + M + 1) ≤ 4 * (M + 4) := Nat.mul_le_mul h.2.1 (by omega)
  omega

theorem neq_or {α : Type} [DecidableEq α] {x y : α} (e : x = y) (h : (!decide (x = y)) = isOp BoolOp.Or) : False := by subst e; simp [isOp] at h
theorem eq_and {α : Type} [DecidableEq α] {x y : α} (e : x = y) (h : decide (x = y) = isOp BoolOp.And) : False := by subst e; simp [isOp] at h

theorem lvalues_vc : VcOk 49 [("_law_worth", sWorth), ("_law_sum", sBin (· + ·)), ("_law_times", sBin (· * ·)), ("_law_minus", sRneg), ("qat", sQat), ("qscale", sQscale), ("qdistance", sQdistance)] ["a", "b", "made", "r"] sValues := by
  intro vs k h
  unfold sValues at h
  split at h
  · rename_i a b m r
    obtain ⟨ha, hb, rfl, hr, h⟩ := h
    have la := ha.2.1
    have lb := hb.2.1
    have ga : hp a 200000 := hp_mono ha.2.2 (by decide)
    have gb : hp b 200000 := hp_mono hb.2.2 (by decide)
    have ga1 : hp a 100000 := hp_mono ha.2.2 (by decide)
    have gb1 : hp b 100000 := hp_mono hb.2.2 (by decide)
    have hr1 : hq r ≤ 10000 := Nat.le_trans hr (by decide)
    have hr2 : hq r ≤ 1000000 := Nat.le_trans hr (by decide)
    have fr : Fit r := Nat.le_trans hr (by decide)
    have ea := sma_ev ha hr
    have eb := sma_ev hb hr
    have fa : Fit (ev a r) := Nat.le_trans ea (by decide)
    have fb : Fit (ev b r) := Nat.le_trans eb (by decide)
    have fb' : Fit (-ev b r) := by unfold Fit; rw [hq_neg]; exact fb
    refine ⟨_, fun _ _ _ r => r, rfl, 30, [(169, .comp (.poly ((madeL a b).map fun p => ev p r)))], ?_⟩
    walk_at "w"
    refine ⟨by omega, ga, hr1, ?_⟩
    walk_at "w"
    refine ⟨by omega, gb, hr1, ?_⟩
    walk_at "w"
    refine ⟨fa, fb, ?_⟩
    walk_at "w"
    refine ⟨fa, fb', ?_⟩
    walk_at "w"
    refine ⟨fa, fb, ?_⟩
    walk_at "w"
    refine ⟨fa, fa, ?_⟩
    walk_at "w"
    refine ⟨by omega, ga, Nat.le_trans eb (by decide), ?_⟩
    walk_at "w"
    refine ⟨1, ⟨rfl, rfl⟩, ?_⟩
    walk_at "w"
    refine ⟨by show 4 + 3 ≤ szL; decide, ?_⟩
    walk_at "w"
    refine ⟨by show 7 ≤ szL; decide, ?_⟩
    walk_at "w"
    refine ⟨⟨by simp, fun i hi => ?_⟩, ?_⟩
    · have hi : i < (madeL a b).length := hi
      have hm : (madeL a b).getD i [] ∈ madeL a b := by
        rw [List.getD_eq_getElem?_getD, List.getElem?_eq_getElem hi]; exact List.getElem_mem _
      obtain ⟨_, m2, m3⟩ := made_ok ha hb _ hm
      have e : ((madeL a b).map fun p => ev p r).getD i 0 = ev ((madeL a b).getD i []) r := by
        simp [List.getD_eq_getElem?_getD, List.getElem?_eq_getElem hi]
      rw [e]
      walk_at "w"
      exact ⟨m2, m3, hr1, rfl⟩
    · walk_at "w"
      refine ⟨fun he => (neq_or (made_ev a b r) he).elim, fun _ => ?_⟩
      walk_at "w"
      refine ⟨by omega, ga1, hr2, ?_⟩
      walk_at "w"
      refine ⟨fun he => (neq_or rfl he).elim, fun _ => ?_⟩
      walk_at "w"
      refine ⟨by omega, gb1, hr2, ?_⟩
      walk_at "w"
      refine ⟨fun he => (neq_or rfl he).elim, fun _ => ?_⟩
      walk_at "w"
      refine ⟨fun e => absurd e (by decide), fun _ => ?_⟩
      walk_at "w"
      refine ⟨ha.ok, fr, ?_⟩
      walk_at "w"
      refine ⟨Nat.le_trans pscale_len (by omega), hp_mono (hp_pscale ha.2.2 hr) (by decide), hr1, ?_⟩
      walk_at "w"
      refine ⟨fa, fr, ?_⟩
      walk_at "w"
      refine ⟨fun he => (eq_and ev_pscale he).elim, fun _ => ?_⟩
      walk_at "w"
      refine ⟨by omega, ga1, by omega, gb1, hr2, ?_⟩
      walk_at "w"
      refine ⟨⟨by show -((7 : Nat) : Int) ≤ 1; decide, by show (1 : Int) < ((7 : Nat) : Int); decide, by show 7 ≤ szL; decide⟩, ?_⟩
      refine cv_bool ?_ h
      rw [decide_eq_true_iff]
      show ev a r - ev b r = ev a r + -ev b r
      grind
  · exact h.elim
end Mine

namespace Mine
open Builtin.Int (intBits)
local macro_rules | `(tactic| walk_at "w") => `(tactic| conv => whnf)
local macro_rules | `(tactic| walk_at "s") => `(tactic| (
  (with_reducible show subS _ _)
  refine And.intro ?_ ?_
  (repeat' (first | exact True.intro | (refine And.intro ?_ ?_) | exact rfl))
  (try all_goals (conv => whnf))))
local macro_rules | `(tactic| walk_at "i") => `(tactic| first
  | refine ⟨fun _ => ?_, fun e => absurd e (by decide), .inl rfl⟩
  | refine ⟨fun e => absurd e (by decide), fun _ => ?_, .inr rfl⟩
  | refine ⟨mulOk (by assumption) (by assumption), ?_⟩)
local macro_rules | `(tactic| walk_at "W") => `(tactic| (walk_at "w"; repeat (walk_at "i"; walk_at "w")))

noncomputable def sForms : Spec | [.poly a], k => Sma a ∧ k (.bool true) | _, _ => False

theorem gcdL_snoc (l : List Int) (x : Int) : gcdL (l ++ [x]) = Int.gcd (gcdL l) x := by unfold gcdL; rw [List.foldl_append]; rfl
theorem take_coI {p : List Int} {n : Nat} (h : n < p.length) : p.take (n + 1) = p.take n ++ [p.getD n 0] := take_succ_getD 0 h
theorem pint_ok {a : List Rat} (h : Sma a) : (pint a).length ≤ 5 ∧ hp (pint a) 10 := by
  refine ⟨by rw [pint_len]; have := h.2.1; split <;> omega, ?_⟩
  unfold pint
  split
  · exact hp_nil _
  · refine hp_cons (Nat.le_trans hq_zero (by decide)) (hp_range fun i hi => ?_)
    have hi : i < a.length := hi
    have h4 := h.2.1
    have e : (i : Rat) + 1 = (((i : Int) + 1 : Int) : Rat) := by push_cast; rfl
    have : hq ((i : Rat) + 1) ≤ 4 := by
      rw [e]
      refine hq_of ?_ ?_
      · rw [(int_rat _).1]; exact bits_small (by omega)
      · rw [(int_rat _).2]; decide
    exact Nat.le_trans (hq_div (natR_ne i) (hq_co h.2.2 (by decide) i) this) (by decide)
theorem prim_nil {a : List Rat} : prim a = [] ↔ a = [] := by
  rw [← List.length_eq_zero_iff, prim_len, List.length_eq_zero_iff]
theorem pmonic_at {a : List Rat} {i : Nat} (hi : i < a.length) : (pmonic a).getD i 0 = co a i * (co a (a.length - 1))⁻¹ := by
  have hn : a ≠ [] := by rintro rfl; simp at hi
  show co (pmonic a) i = _
  unfold pmonic
  rw [if_neg hn, co_pscale]
theorem pmonic_len {a : List Rat} (h : Tr a) : (pmonic a).length = a.length := by
  unfold pmonic
  split
  · rename_i e; rw [e]
  · rename_i hn
    unfold pscale
    have := h hn
    rw [if_neg (by intro e; have := Rat.mul_inv_cancel _ this; rw [e] at this; simp at this), List.length_map]

theorem wh_bits {a : List Rat} (h : Sma a) {x : Int} (hx : x ∈ wh a) : intBits x ≤ 100 := by
  obtain ⟨q, hq, rfl⟩ := List.mem_map.mp hx
  have h1 : intBits ((bot a / q.den : Nat) : Int) ≤ 1 + a.length * 3 := by
    refine intBits_le_of_natAbs (y := (bot a : Int)) ?_ (bot_bits h.2.2)
    rw [Int.natAbs_natCast, Int.natAbs_natCast]; exact Nat.div_le_self ..
  have := h.2.1
  exact Nat.le_trans (intBits_mul_le (hq_num (h.2.2 q hq)) h1) (by omega)
theorem prim_okp {a : List Rat} (h : Sma a) : Ok (toR (prim a)) := by
  refine ⟨by simp [toR, prim_len]; have := h.2.1; omega, fun q hq => ?_⟩
  obtain ⟨x, hx, rfl⟩ := List.mem_map.mp hq
  have hx2 : intBits x ≤ 100 := by
    unfold prim zprim at hx
    split at hx
    · simp at hx
    · obtain ⟨y, hy, rfl⟩ := List.mem_map.mp hx
      exact intBits_fdiv_le (wh_bits h hy)
  refine hq_of ?_ ?_
  · rw [(int_rat x).1]; omega
  · rw [(int_rat x).2]; decide
theorem zrat_fit {a : List Rat} (h : Sma a) : Fit (zrat a) := by
  unfold zrat
  split
  · exact fit_zero
  · rename_i hn
    have hb : (bot a : Int) ≠ 0 := by exact_mod_cast bot_ne a
    refine Nat.le_trans (hq_divInt (N := 100) hb ?_ ?_) (by decide)
    · have hl : 0 < (wh a).length := by rw [wh_len]; exact List.length_pos_iff.mpr hn
      have hm : (wh a).getD ((wh a).length - 1) 0 ∈ wh a := by
        rw [List.getD_eq_getElem?_getD, List.getElem?_eq_getElem (show (wh a).length - 1 < (wh a).length by omega)]; exact List.getElem_mem _
      have hd := zs_dvd hm
      refine intBits_le_of_natAbs (y := (wh a).getD ((wh a).length - 1) 0) ?_ (wh_bits h hm)
      exact Nat.le_of_dvd (Nat.pos_of_ne_zero fun e => wh_last hn h.1 (Int.natAbs_eq_zero.mp e)) (Int.natAbs_dvd_natAbs.mpr hd)
    · have := h.2.1
      exact Nat.le_trans (bot_bits h.2.2) (by omega)
theorem toR_back {a : List Rat} (h : Sma a) : pscale (toR (prim a)) (zrat a) = a := prim_back h.1

noncomputable def formsT : List (Str × Spec) := [("to_z", sToZ), ("from_z", sFromZ), ("qscale", sQscale), ("abs", sAbs), ("qmonic", sQmonic), ("_law_times", sBin (· * ·)), ("_law_ratio", sRat), ("qgcd", sQgcd), ("qintegral", sQintegral), ("qderive", sQderive), ("_law_slope", sSlope), ("_law_worth", sWorth),
    ("qdegree", sQdegree), ("qlead", sQlead), ("len", sLen)]
noncomputable def formsS (a : List Rat) : List (Nat × Sp) := [(174, .comp (.poly (toR (prim a)))),
      (177, .loop Int (fun i w => w = gcdL ((prim a).take i)) (fun i w => ⟨[("a", .poly a), ("whole", .ilst (prim a)), ("ratio", .rat (zrat a)), ("worth", .int w)], none⟩) 0 (fun i w =>
        [(179, .whl (Int × Int) (fun x => 0 ≤ x.1 ∧ 0 ≤ x.2 ∧ Int.gcd x.1 x.2 = gcdL ((prim a).take (i + 1))) (fun x => x.2.natAbs) (fun x => ⟨[("a", .poly a), ("whole", .ilst (prim a)), ("ratio", .rat (zrat a)), ("worth", .int x.1), ("one", .int x.2)], none⟩)
          (w, ((prim a).getD i 0).natAbs) fun _ => [])])),
      (184, .comp (.poly (pmonic a)))]

theorem both_ways {A B P Q : Prop} (h2 : P → B → Q) (hp : P) : (A → P) ∧ (B → Q) := ⟨fun _ => hp, h2 hp⟩

set_option maxHeartbeats 4000000 in
theorem lforms_vc : VcOk 50 formsT ["a"] sForms := by
  intro vs k h
  unfold sForms at h
  split at h
  · rename_i a
    obtain ⟨ha, h⟩ := h
    have la := ha.2.1
    have sa := ha.ok.sz
    have sp : (prim a).length ≤ szL := by rw [prim_len]; exact sa
    obtain ⟨gl, gh⟩ := pint_ok ha
    have gok : Ok (pint a) := ⟨by omega, hp_mono gh (by decide)⟩
    refine ⟨_, fun _ _ _ r => r, rfl, 40, formsS a, ?_⟩
    walk_at "w"
    refine ⟨ha.1, by omega, hp_mono ha.2.2 (by decide), ?_⟩
    walk_at "w"
    refine ⟨sp, ?_⟩
    walk_at "w"
    refine ⟨sp, ?_⟩
    walk_at "w"
    refine ⟨⟨by simp [toR], fun i hi => ?_⟩, ?_⟩
    · have e : (toR (prim a)).getD i 0 = (((prim a).getD i 0 : Int) : Rat) := by
        unfold toR; simp [List.getD_eq_getElem?_getD, List.getElem?_eq_getElem hi]
      rw [e]
      walk_at "w"
      exact int_rat _
    · walk_at "w"
      refine ⟨fun he => (neq_or rfl he).elim, fun _ => ?_⟩
      walk_at "w"
      refine ⟨sp, ?_⟩
      walk_at "w"
      refine ⟨prim_okp ha, zrat_fit ha, ?_⟩
      walk_at "w"
      refine ⟨fun he => (neq_or (toR_back ha) he).elim, fun _ => ?_⟩
      walk_at "w"
      refine ⟨fun e => absurd e (by decide), fun _ => ?_⟩
      walk_at "w"
      refine ⟨sp, ?_⟩
      refine ⟨⟨rfl, by walk_at "s"⟩, ?_, ?_⟩
      · intro i w hi hw
        have hi : i < (prim a).length := hi
        walk_at "w"
        refine ⟨⟨⟨?_, ?_, ?_⟩, by walk_at "s"⟩, ?_⟩
        · rw [hw]; exact Int.natCast_nonneg _
        · exact Int.natCast_nonneg _
        · show Int.gcd w _ = _
          rw [hw, take_coI hi, gcdL_snoc]
          simp [Int.gcd]
        · intro x ⟨g1, g2, g3⟩
          walk_at "w"
          refine ⟨fun hb => ?_, fun hb => ?_⟩
          · have hb : x.2 ≠ 0 := by simpa using hb
            obtain ⟨s1, s2, s3⟩ := gcd_step x.1 x.2 hb g1 g2
            walk_at "w"
            refine ⟨hb, ?_⟩
            exact ⟨(x.2, x.1.fmod x.2), ⟨⟨g2, s1, s3.trans g3⟩, s2⟩, by walk_at "s"⟩
          · have hb : x.2 = 0 := by simpa using hb
            walk_at "w"
            refine ⟨gcdL ((prim a).take (i + 1)), rfl, ?_⟩
            walk_at "s"
            rw [← g3, hb]; simp; omega
      · intro w hw
        have hw : w = gcdL (prim a) := by
          have : w = gcdL ((prim a).take (prim a).length) := hw
          rw [List.take_length] at this; exact this
        walk_at "w"
        refine both_ways (fun hthird he => ?_) ?_
        · have hn : a ≠ [] := by
            rintro rfl
            have : (!(decide (prim [] = []) && decide ((zrat []).num = 0 ∧ ((zrat []).den : Int) = 1))) = true := he
            revert this; decide
          have hpn : prim a ≠ [] := fun e => hn (prim_nil.mp e)
          have hpl : 0 < (prim a).length := List.length_pos_iff.mpr hpn
          have hone : w = 1 := by rw [hw]; exact_mod_cast gcdL_prim (l := wh a) (by intro e; exact hpn (by rw [prim, e]; rfl)) (wh_gcd hn ha.1)
          have hpos : 0 < (prim a).getD ((prim a).length - 1) 0 := prim_pos (l := wh a) (by intro e; exact hpn (by rw [prim, e]; rfl)) (wh_last hn ha.1)
          walk_at "w"
          refine ⟨fun he => (neq_or hone he).elim, fun _ => ?_⟩
          walk_at "w"
          refine ⟨⟨by omega, by omega, sp⟩, ?_⟩
          rw [last_ix hpl]
          walk_at "w"
          refine ⟨fun he => absurd (show (prim a).getD ((prim a).length - 1) 0 ≤ 0 from of_decide_eq_true he) (by omega), fun _ => ?_⟩
          walk_at "w"
          exact ⟨fun _ => hthird, fun e => absurd e (by decide)⟩
        · walk_at "w"
          refine ⟨fun e => absurd e (by decide), fun _ => ?_⟩
          walk_at "w"
          refine ⟨fun he => (neq_or (by simp [prim_nil]) he).elim, fun _ => ?_⟩
          walk_at "w"
          refine ⟨fun e => absurd e (by decide), fun _ => ?_⟩
          walk_at "w"
          refine ⟨ha.ok, ha.1, ?_⟩
          walk_at "w"
          refine ⟨sa, ?_⟩
          walk_at "w"
          refine ⟨⟨pmonic_len ha.1, fun i hi => ?_⟩, ?_⟩
          · have hi : i < a.length := hi
            have hn : a ≠ [] := by rintro rfl; simp at hi
            have hl := ha.1 hn
            rw [pmonic_at hi]
            walk_at "w"
            refine ⟨⟨by omega, by omega, sa⟩, ?_⟩
            walk_at "W"
            refine ⟨⟨by omega, by omega, sa⟩, ?_⟩
            walk_at "W"
            rw [last_ix (by omega)]
            refine ⟨num_ne hl, ?_⟩
            walk_at "w"
            have e : Rat.divInt ((a.getD (a.length - 1) 0).den : Int) (a.getD (a.length - 1) 0).num = (co a (a.length - 1))⁻¹ := (Rat.inv_def _).symm
            rw [e]
            refine ⟨ha.ok.fit i, hq_inv hl (ha.ok.fit _), rfl⟩
          · walk_at "w"
            refine ⟨fun he => (neq_or rfl he).elim, fun _ => ?_⟩
            walk_at "w"
            refine ⟨ha, sma_nil, .inr rfl, ?_⟩
            walk_at "w"
            refine ⟨fun he => (neq_or (by rw [if_pos rfl]) he).elim, fun _ => ?_⟩
            walk_at "w"
            refine ⟨fun e => absurd e (by decide), fun _ => ?_⟩
            walk_at "w"
            refine ⟨ha.ok, ?_⟩
            walk_at "w"
            refine ⟨ha.ok, ?_⟩
            walk_at "w"
            refine ⟨by omega, hp_mono ha.2.2 (by decide), ?_⟩
            walk_at "w"
            refine ⟨fun he => (neq_or rfl he).elim, fun _ => ?_⟩
            walk_at "w"
            refine ⟨gok, ?_⟩
            walk_at "w"
            refine ⟨fun he => (neq_or (pder_pint a) he).elim, fun _ => ?_⟩
            walk_at "w"
            refine ⟨0, ⟨rfl, rfl⟩, by omega, hp_mono gh (by decide), Nat.le_trans hq_zero (by decide), ?_⟩
            walk_at "w"
            refine ⟨fun he => ?_, fun _ => ?_⟩
            · exfalso
              have : (!decide ((ev (pint a) 0).num = 0 ∧ ((ev (pint a) 0).den : Int) = 1)) = true := he
              rw [ev_pint_zero] at this
              revert this; decide
            walk_at "w"
            refine ⟨fun e => absurd e (by decide), fun _ => ?_⟩
            walk_at "w"
            refine ⟨sma_nil, ha, .inl rfl, ?_⟩
            walk_at "w"
            refine ⟨fun he => ?_, fun _ => ?_⟩
            · exfalso
              have : (!decide (pmonic (if a = [] then [] else a) = pmonic a)) = true := he
              have e : (if a = [] then [] else a) = a := by split <;> simp_all
              rw [e] at this
              simp at this
            walk_at "w"
            refine ⟨sa, ?_⟩
            walk_at "w"
            refine ⟨sa, ?_⟩
            walk_at "w"
            refine ⟨fun he => (eq_and rfl he).elim, fun _ => ?_⟩
            walk_at "w"
            refine ⟨sa, ?_⟩
            walk_at "w"
            refine ⟨fun hn => ?_, fun hn => ?_⟩
            · have hn : a ≠ [] := by
                have : (!decide (a = [])) = true := hn
                simpa using this
              have hl : 0 < a.length := List.length_pos_iff.mpr hn
              walk_at "w"
              refine ⟨⟨by omega, by omega, sa⟩, ?_⟩
              rw [last_ix hl]
              exact cv_bool (decide_eq_true rfl) h
            · have hn : a = [] := by
                have : (!decide (a = [])) = false := hn
                simpa using this
              walk_at "w"
              refine cv_bool (decide_eq_true ?_) h
              subst hn
              exact ⟨rfl, rfl⟩
  · exact h.elim
end Mine

namespace Mine
open Builtin.Int (intBits)
local macro_rules | `(tactic| walk_at "w") => `(tactic| conv => whnf)
local macro_rules | `(tactic| walk_at "s") => `(tactic| (
  (with_reducible show subS _ _)
  refine And.intro ?_ ?_
  (repeat' (first | exact True.intro | (refine And.intro ?_ ?_) | exact rfl))
  (try all_goals (conv => whnf))))
local macro_rules | `(tactic| walk_at "i") => `(tactic| first
  | refine ⟨fun _ => ?_, fun e => absurd e (by decide), .inl rfl⟩
  | refine ⟨fun e => absurd e (by decide), fun _ => ?_, .inr rfl⟩
  | refine ⟨mulOk (by assumption) (by assumption), ?_⟩)
local macro_rules | `(tactic| walk_at "W") => `(tactic| (walk_at "w"; repeat (walk_at "i"; walk_at "w")))

/-- the tries left to the division, where the divisor is not 0 -/
noncomputable def divPre (a b : List Rat) : Prop := Tr a ∧ a.length ≤ 8 ∧ hp a 50 ∧ Sma b
theorem psub_self (a : List Rat) : psub a a = [] := by
  refine tr_ext tr_padd tr_nil fun i => ?_
  rw [co_psub, co_nil]; grind
theorem pscale_zero (a : List Rat) : pscale a 0 = [] := by unfold pscale; rw [if_pos rfl]
theorem sma_pre {a b : List Rat} (ha : Sma a) (hb : Sma b) : divPre a b := ⟨ha.1, by have := ha.2.1; omega, hp_mono ha.2.2 (by decide), hb⟩
theorem made_pre {a b : List Rat} (ha : Sma a) (hb : Sma b) : divPre (pmul a b) b := by
  refine ⟨tr_pmul ha.1 hb.1, ?_, ?_, hb⟩
  · have := ha.2.1; have := hb.2.1
    exact Nat.le_trans pmul_le (by omega)
  · refine hp_mono (hp_pmul ha.2.2 hb.2.2 (by decide) (by decide)) ?_
    have := ha.2.1
    omega

noncomputable def lawT : List (Str × Spec) := [("_law_row", sRow), ("qadd", sQadd), ("qsub", sQsub), ("qmul", sQmul), ("qneg", sQneg), ("qpower", sQpower), ("qcompose", sQcompose), ("_law_ratio", sRat), ("_law_take", sTake), ("_law_values_right", sValues), ("qscale", sQscale), ("_law_forms_right", sForms)]
noncomputable def lawS : List (Nat × Sp) := [(211, .loe (List Rat × List Rat) (fun _ x => Sma x.1 ∧ Sma x.2) (fun _ x => ⟨[("a", .poly x.1), ("b", .poly x.2), ("made", .polys (madeL x.1 x.2))], none⟩) fun _ _ => [])]

/-- law, between its first statement and its last -/
theorem law_mid {kR : V → Prop} {kN : Sto → Prop} (hN : ∀ a b, Sma a → Sma b → kN ⟨[("a", .poly a), ("b", .poly b), ("made", .polys (madeL a b))], none⟩) :
    vc (fun x => lawT.lookup x) 40 ⟨(scopeAt 53).names, lawS⟩ (((bodyAt 53).drop 1).take 5) ⟨[("box", .box)], none⟩ kR kN := by
  walk_at "w"
  intro a ha
  walk_at "w"
  intro b hb
  walk_at "w"
  refine ⟨ha.ok, hb.ok, ?_⟩
  walk_at "w"
  refine ⟨ha.ok, hb.ok, ?_⟩
  walk_at "w"
  refine ⟨ha.okM, hb.okM, ?_⟩
  walk_at "w"
  refine ⟨ha.ok.sz, ?_⟩
  walk_at "w"
  have l30 : a.length ≤ 30 := by have := ha.2.1; omega
  have g1000 : hp a 1000 := hp_mono ha.2.2 (by decide)
  refine ⟨by decide, by decide, l30, g1000, ?_⟩
  walk_at "w"
  refine ⟨ha.2.1, hb.2.1, ha.2.2, hb.2.2, ?_⟩
  walk_at "w"
  refine ⟨by decide, by decide, l30, g1000, ?_⟩
  walk_at "w"
  refine ⟨by decide, by decide, fun t t0 t7 => ?_⟩
  walk_at "w"
  refine ⟨by decide, by decide, fun u u0 u3 => ?_⟩
  walk_at "w"
  have hb0 : (1 : Int) + u ≠ 0 := by omega
  refine ⟨hb0, ?_⟩
  have hr1 : hq (Rat.divInt (t - 3) (1 + u)) ≤ 3 := hq_divInt hb0 (bits_small (by omega)) (bits_small (by omega))
  walk_at "w"
  refine ⟨0, ⟨rfl, rfl⟩, ?_⟩
  refine ⟨1, ⟨rfl, rfl⟩, ?_⟩
  refine ⟨-2, ⟨rfl, rfl⟩, ?_⟩
  walk_at "w"
  refine ⟨by show 4 ≤ szL; decide, ?_⟩
  refine ⟨⟨(a, b), ⟨ha, hb⟩, by walk_at "s"⟩, ?_, ?_⟩
  · intro i x hi ⟨hx1, hx2⟩
    walk_at "w"
    have hi : i < 4 := hi
    have hri : hq ([Rat.divInt (t - 3) (1 + u), 0, 1, -2].getD i 0) ≤ 3 := by
      have : i = 0 ∨ i = 1 ∨ i = 2 ∨ i = 3 := by omega
      rcases this with rfl | rfl | rfl | rfl
      · exact hr1
      · show hq 0 ≤ 3; decide
      · show hq 1 ≤ 3; decide
      · show hq (-2) ≤ 3; decide
    refine ⟨hx1, hx2, rfl, hri, ?_⟩
    walk_at "w"
    refine ⟨fun e => absurd e (by decide), fun _ => ?_⟩
    walk_at "w"
    refine ⟨x, ⟨hx1, hx2⟩, ?_⟩
    walk_at "s"
  · intro x ⟨hx1, hx2⟩
    walk_at "w"
    refine ⟨by show 7 ≤ szL; decide, ?_⟩
    walk_at "w"
    refine ⟨fun i hi => ?_, ?_⟩
    · have hi : i < (madeL x.1 x.2).length := hi
      have hm : (madeL x.1 x.2).getD i [] ∈ madeL x.1 x.2 := by
        rw [List.getD_eq_getElem?_getD, List.getElem?_eq_getElem hi]; exact List.getElem_mem _
      obtain ⟨m1, m2, _⟩ := made_ok hx1 hx2 _ hm
      walk_at "w"
      refine ⟨fun hn => rfl, fun hn => ?_⟩
      have hn : (madeL x.1 x.2).getD i [] ≠ [] := by
        have : (!decide ((madeL x.1 x.2).getD i [] = [])) = true := hn
        simpa using this
      have hl := List.length_pos_iff.mpr hn
      have hlead := m1 hn
      walk_at "w"
      refine ⟨⟨by omega, by omega, by unfold szL; omega⟩, ?_⟩
      rw [last_ix hl]
      walk_at "W"
      refine ⟨fun _ => rfl, fun hz => absurd (show (co ((madeL x.1 x.2).getD i []) (((madeL x.1 x.2).getD i []).length - 1)).num = 0 from of_decide_eq_true hz) (num_ne hlead)⟩
    · walk_at "w"
      refine ⟨fun e => absurd e (by decide), fun _ => ?_⟩
      walk_at "w"
      refine ⟨hx1.ok, hx1.ok, ?_⟩
      walk_at "w"
      refine ⟨fun he => (neq_or (psub_self _) he).elim, fun _ => ?_⟩
      walk_at "w"
      refine ⟨0, ⟨rfl, rfl⟩, hx1.ok, fit_zero, ?_⟩
      walk_at "w"
      refine ⟨fun he => (neq_or (pscale_zero _) he).elim, fun _ => ?_⟩
      walk_at "w"
      refine ⟨hx1, ?_⟩
      walk_at "w"
      refine ⟨fun e => absurd e (by decide), fun _ => ?_⟩
      walk_at "w"
      refine ⟨hx2, ?_⟩
      walk_at "w"
      refine ⟨fun e => absurd e (by decide), fun _ => ?_⟩
      walk_at "w"
      refine ⟨fun e => absurd e (by decide), fun _ => ?_⟩
      exact hN _ _ hx1 hx2
end Mine

namespace Mine
open Builtin.Int (intBits)
local macro_rules | `(tactic| walk_at "w") => `(tactic| conv => whnf)
local macro_rules | `(tactic| walk_at "s") => `(tactic| (
  (with_reducible show subS _ _)
  refine And.intro ?_ ?_
  (repeat' (first | exact True.intro | (refine And.intro ?_ ?_) | exact rfl))
  (try all_goals (conv => whnf))))
local macro_rules | `(tactic| walk_at "i") => `(tactic| first
  | refine ⟨fun _ => ?_, fun e => absurd e (by decide), .inl rfl⟩
  | refine ⟨fun e => absurd e (by decide), fun _ => ?_, .inr rfl⟩
  | refine ⟨mulOk (by assumption) (by assumption), ?_⟩)
local macro_rules | `(tactic| walk_at "W") => `(tactic| (walk_at "w"; repeat (walk_at "i"; walk_at "w")))

theorem back_eq {a b q r : List Rat} (ta : Tr a) (h : DM a b q r) : backP q b r = a := by
  unfold backP
  split
  · rename_i e
    subst e
    refine tr_ext h.trr ta fun i => ?_
    rw [h.eq i, cv, List.length_nil, sm]; exact (Rat.zero_add _).symm
  · rename_i hn
    have lq : 0 < q.length := List.length_pos_iff.mpr hn
    have h1 := h.len
    have h2 := h.qlen
    have hcv : ∀ k, q.length + b.length - 1 ≤ k → cv q.length (co q) (co b) k = 0 := fun k hk => by
      rw [cv, sm_zero]
      intro i hi
      unfold sh
      split
      · rw [co_out (p := b) (by omega)]; grind
      · grind
    have hla : a.length = q.length + b.length - 1 := by
      refine Nat.le_antisymm (Nat.le_of_not_lt fun hlt => ?_) (by omega)
      have hna : a ≠ [] := by rintro rfl; simp at hlt
      refine ta hna ?_
      rw [h.eq, hcv _ (by omega), co_out (p := r) (by omega)]
      exact Rat.zero_add 0
    refine ext_co (by rw [bG_len, hla]) fun k hk => ?_
    rw [bG_len] at hk
    rw [bG_co hk, mG_zero, h.eq k]
    unfold mF
    rw [co_map, if_pos hk]; grind

noncomputable def divT : List (Str × Spec) := [("qdivmod", sDivmod), ("len", sLen), ("_law_back", sBack), ("list", sList)]
noncomputable def tryBody : Stmt → List Stmt
  | .Try b _ _ _ _ => b
  | _ => []
theorem div_try {a b : List Rat} (h : divPre a b) (hb : b ≠ []) {kR : V → Prop} {kN : Sto → Prop} (hN : ∀ q r, DM a b q r → kN ⟨[("rest", .poly r), ("quotient", .poly q), ("a", .poly a), ("b", .poly b)], none⟩) :
    vc (fun x => divT.lookup x) 30 ⟨(scopeAt 52).names, []⟩ (tryBody ((bodyAt 52).headD (.Pass ⟨0, 0, 0, 0⟩))) ⟨[("a", .poly a), ("b", .poly b)], none⟩ kR kN := by
  walk_at "w"
  obtain ⟨h1, h2, h3, h4, h5, h6⟩ := h
  refine ⟨hb, h1, h4, h2, h3, h5, h6, fun q r hD => ?_⟩
  exact hN q r hD

theorem div_rest {a b q r : List Rat} (h : divPre a b) (hb : b ≠ []) (D : DM a b q r) {k : V → Prop} (hk : k (.bool true)) :
    vc (fun x => divT.lookup x) 30 ⟨(scopeAt 52).names, []⟩ ((bodyAt 52).drop 1) ⟨[("rest", .poly r), ("quotient", .poly q), ("a", .poly a), ("b", .poly b)], none⟩ (cvK k) fun _ => cvK k .none := by
  obtain ⟨h1, h2, h3, h4, h5, h6⟩ := h
  have lb : 0 < b.length := List.length_pos_iff.mpr hb
  have sb : b.length ≤ szL := by unfold szL; omega
  have sr : r.length ≤ szL := by have := D.len; unfold szL; omega
  have sq : q.length ≤ szL := by have := D.qlen; unfold szL; omega
  have hq8 : q.length ≤ 8 := by have := D.qlen; omega
  walk_at "w"
  refine ⟨fun e => absurd (of_decide_eq_true e) hb, fun _ => ?_⟩
  walk_at "w"
  refine ⟨sr, ?_⟩
  walk_at "w"
  refine ⟨sb, ?_⟩
  walk_at "w"
  refine ⟨fun e => absurd (Int.ofNat_le.mp (of_decide_eq_true e)) (Nat.not_le.mpr D.len), fun _ => ?_⟩
  walk_at "w"
  refine both_ways (fun hthird he => ?_) ?_
  · have hn : r ≠ [] := by
      have : (!decide (r = [])) = true := he
      simpa using this
    have hl := List.length_pos_iff.mpr hn
    walk_at "w"
    refine ⟨⟨by omega, by omega, sr⟩, ?_⟩
    rw [last_ix hl]
    walk_at "W"
    refine ⟨fun _ => hthird, fun hz => absurd (show (co r (r.length - 1)).num = 0 from of_decide_eq_true hz) (num_ne (D.trr hn))⟩
  · walk_at "w"
    refine ⟨fun e => absurd e (by decide), fun _ => ?_⟩
    walk_at "w"
    refine both_ways (fun hthird he => ?_) ?_
    · have hn : q ≠ [] := by
        have : (!decide (q = [])) = true := he
        simpa using this
      have hl := List.length_pos_iff.mpr hn
      walk_at "w"
      refine ⟨⟨by omega, by omega, sq⟩, ?_⟩
      rw [last_ix hl]
      walk_at "W"
      refine ⟨fun _ => hthird, fun hz => absurd (show (co q (q.length - 1)).num = 0 from of_decide_eq_true hz) (num_ne (D.trq hn))⟩
    · walk_at "w"
      refine ⟨fun e => absurd e (by decide), fun _ => ?_⟩
      walk_at "w"
      refine ⟨fun e => absurd e (by decide), fun _ => ?_⟩
      walk_at "w"
      refine ⟨sr, ?_⟩
      walk_at "w"
      refine ⟨hq8, h5, D.len, D.hq, h6, D.hr, ?_⟩
      walk_at "w"
      exact cv_bool (decide_eq_true (back_eq h1 D)) hk
end Mine

namespace Mine

section
variable {g : Gl} {n : Nat}
theorem len_ok : Calls g n (.builtin "len") sLen := by
  intro A X s ws vs k Q room wf hS hr hQ
  unfold sLen at hS
  split at hS
  · obtain ⟨_, rfl, a, us, rfl, z, hl, r⟩ := hr.one
    refine PySem.Calls.call_len_list hl.isList (by simp only [List.size_toArray]; rw [r.length]; have := hS.1; unfold szL at this; omega) (hQ _ _ _ hS.2 .toks ?_)
    exact ⟨_, by simp only [List.size_toArray]; rw [r.length]⟩
  · obtain ⟨_, rfl, a, us, rfl, z, hl, r⟩ := hr.one
    refine PySem.Calls.call_len_list hl.isList (by simp only [List.size_toArray]; rw [r.length]; have := hS.1; unfold szL at this; omega) (hQ _ _ _ hS.2 .toks ?_)
    exact ⟨_, by simp only [List.size_toArray]; rw [r.length]⟩
  · exact hS.elim
theorem abs_ok : Calls g n (.builtin "abs") sAbs := by
  intro A X s ws vs k Q room wf hS hr hQ
  unfold sAbs at hS
  split at hS
  · rename_i a
    obtain ⟨_, rfl, t, rfl⟩ := hr.one
    refine call_abs_int fun u tk => hQ _ _ _ hS .toks ⟨u, ?_⟩
    congr 1
    split <;> omega
  · exact hS.elim
theorem max_ok : Calls g n (.builtin "max") sMax := by
  intro A X s ws vs k Q room wf hS hr hQ
  unfold sMax at hS
  split at hS
  · rename_i a b
    obtain ⟨_, _, rfl, ⟨t, rfl⟩, ⟨u, rfl⟩⟩ := hr.two
    refine max_two_ints room.handled fun h' tk hk => hQ _ _ _ hS (.ext hk) ?_
    show RInt _ _
    by_cases h : a < b
    · rw [if_pos h, if_pos (by exact h)]; exact ⟨_, rfl⟩
    · rw [if_neg h, if_neg (by exact h)]; exact ⟨_, rfl⟩
  · exact hS.elim
theorem list_ok : Calls g n (.type "list") sList := by
  intro A X s ws vs k Q room wf hS hr hQ
  unfold sList at hS
  split at hS
  · obtain ⟨_, rfl, a, us, rfl, z, ⟨m, hl⟩, r⟩ := hr.one
    · refine call_list_seq (hsz := by simp only [List.size_toArray]; rw [r.length]; exact Nat.le_trans hS.1 szL_le) a (.inl rfl) hl rfl rfl fun h' c' hk hD => ?_
      have p : Stp X s { s with heap := h' } := Stp.ext (tk := s.toks) hk
      exact hQ _ _ _ hS.2 p ⟨_, us, rfl, wf.zs.fresh, ⟨c', hD⟩, r.mono fun _ _ x => x.keep wf.ok p⟩
  · exact hS.elim
end
end Mine

namespace Mine

section
variable {t : Rt} {X : Av} {σ : Sto} {s : Shared}

structure BoxAt (X : Av) (s : Shared) (b c : Addr) (n : Int) (u : Tok) (is : List Int) (vs : List Value) : Prop where
  bx : X.bx = some (b, c)
  top : LstAt s.heap b [.ref c, .int n u]
  cell : LstAt s.heap c vs
  nums : BoxL is vs
theorem BoxAt.ne {b c n u is vs} (h : BoxAt X s b c n u is vs) : b ≠ c := by
  rintro rfl
  obtain ⟨m, e⟩ := h.top
  obtain ⟨m', e'⟩ := h.cell
  rw [e] at e'
  have : [Value.ref b, Value.int n u].toArray = vs.toArray := by simp at e'; simp [e'.1]
  have hv : vs = [.ref b, .int n u] := by simpa using this.symm
  subst hv
  match is, h.nums.1 with
  | _ :: _, hi => obtain ⟨t, e⟩ := hi.1; cases e

theorem box_held (st : St t X σ s) {x : Str} (hx : σ.ρ.lookup x = some .box) : ∃ b c n u is vs m, BoxAt X s b c n u is vs ∧ s.heap.Ns t.env.locals m ∧ Held t s m x (.ref b) := by
  obtain ⟨m, v⟩ := st.vars
  obtain ⟨w, hh, b, c, hb, rfl⟩ := v.vals x _ hx
  obtain ⟨n, u, is, vs, h1, h2, h3⟩ := st.wf.box b c hb
  exact ⟨b, c, n, u, is, vs, m, ⟨hb, h1, h2, h3⟩, v.ns, hh⟩

theorem BoxAt.keepT {b c n u is vs} {tk : Nat} (h : BoxAt X s b c n u is vs) : BoxAt X { s with toks := tk } b c n u is vs := ⟨h.bx, h.top, h.cell, h.nums⟩

theorem box_sub0 {ks : List (Str × NameKind)} (ok : t.Ok ks) (st : St t X σ s) {x : Str} {p p' p'' : Pos} {kd : Nat} (hx : σ.ρ.lookup x = some .box) {Q : Value → Shared → Prop}
    (hQ : ∀ b c n u is vs tk, BoxAt X s b c n u is vs → Q (.ref c) { s with toks := tk }) : wpAny (model t.g.prog t.g.w) t.A (eval (.Subscript (.Name x p) (.Constant (.int 0) kd p') p'') t.env) Q noE s := by
  obtain ⟨b, c, n, u, is, vs, m, hB, hn, hh⟩ := box_held st hx
  refine Subscript_ (name_held ok hn hh (wpAny_Constant_int ?_))
  exact subscriptTail_list (vs := [.ref c, .int n u]) rfl hB.top (show ixOk 2 0 from ⟨by decide, by decide, by decide⟩) rfl (hQ _ _ _ _ _ _ _ hB)
theorem box_sub1 {ks : List (Str × NameKind)} (ok : t.Ok ks) (st : St t X σ s) {x : Str} {p p' p'' : Pos} {kd : Nat} (hx : σ.ρ.lookup x = some .box) {Q : Value → Shared → Prop}
    (hQ : ∀ n u tk, Q (.int n u) { s with toks := tk }) : wpAny (model t.g.prog t.g.w) t.A (eval (.Subscript (.Name x p) (.Constant (.int 1) kd p') p'') t.env) Q noE s := by
  obtain ⟨b, c, n, u, is, vs, m, hB, hn, hh⟩ := box_held st hx
  refine Subscript_ (name_held ok hn hh (wpAny_Constant_int ?_))
  exact subscriptTail_list (vs := [.ref c, .int n u]) rfl hB.top (show ixOk 2 1 from ⟨by decide, by decide, by decide⟩) rfl (hQ _ _ _)

theorem Stp.boxTop {b c n u is vs} (h : BoxAt X s b c n u is vs) {h' : Heap} {m : Int} {v : Tok} {tk : Nat} (hl : LstAt h' b [.ref c, .int m v]) (hs : Heap.SameBut b s.heap h') : Stp X s { s with heap := h', toks := tk } where
  keep a o i e := hs.extBut a o (fun q => i (q ▸ ⟨b, c, h.bx, .inl rfl⟩)) e
  box b' c' e n' t' is' vs' h1 h2 h3 := by
    have e' := e.symm.trans h.bx
    cases e'
    obtain ⟨k, q⟩ := h2
    exact ⟨m, v, is', vs', hl, ⟨k, hs.extBut _ _ h.ne.symm q⟩, h3⟩
  rest := ⟨_, _, rfl⟩
theorem Stp.boxCell {b c n u is vs} (h : BoxAt X s b c n u is vs) {h' : Heap} {is2 : List Int} {vs2 : List Value} {tk : Nat} (hl : LstAt h' c vs2) (hi : BoxL is2 vs2) (hs : Heap.SameBut c s.heap h') : Stp X s { s with heap := h', toks := tk } where
  keep a o i e := hs.extBut a o (fun q => i (q ▸ ⟨b, c, h.bx, .inr rfl⟩)) e
  box b' c' e n' t' is' vs' h1 h2 h3 := by
    have e' := e.symm.trans h.bx
    cases e'
    obtain ⟨k, q⟩ := h1
    exact ⟨n', t', is2, vs2, ⟨k, hs.extBut _ _ h.ne q⟩, hl, hi⟩
  rest := ⟨_, _, rfl⟩

theorem call1 {c : Cx} (ok : t.Ok c.ks) {fn : Str} {fv : Value} (hg : isGlob c fn = true) (hfv : t.g.mg fn = some fv ∨ (t.g.mg fn = none ∧ t.g.mb fn = some fv)) (hk : Keeps t.g fv) {e : Expr} (hst : noStar e = true) {p pos : Pos} {Q : Value → Shared → Prop} (hb : Base t.g s)
    (h : wpAny (model t.g.prog t.g.w) t.A (eval e t.env) (fun v s' => Base t.g s' ∧ wpAny (model t.g.prog t.g.w) t.A (call fv [v]) Q noE s') noE s) : wpAny (model t.g.prog t.g.w) t.A (eval (.Call (.Name fn p) [e] [] pos) t.env) Q noE s := by
  refine Call_ (name_global ok hb (isGlob_iff hg) hfv ?_)
  have e1 : starEach [e] t.env = (false, eval e t.env) :: starEach [] t.env := starEach_c hst
  have key : wpAny (model t.g.prog t.g.w) t.A (spliced (backTo pos (starEach [e] t.env))) (fun vs s' => Base t.g s' ∧ wpAny (model t.g.prog t.g.w) t.A (call fv vs) Q noE s') noE s :=
    wpAny_items_cons (wpAny_mono h (fun v s' h' => wpAny_items_nil h') fun _ _ e => e) e1
  refine callWith_of (P := fun h => ∀ a o, t.g.B.get? a = some o → h.get? a = some o) (by rw [e1]; rfl) (fun h hb => hk.look _ h hb) ?_
  rw [e1] at key ⊢
  exact PySem.Calls.evalArgs_plain key

theorem base_sub {o i : Expr} {m : Str} {p : Pos} {env : Env} {w : Sem Value} : attributeBase (.Subscript o i p) m env w = w := by
  unfold attributeBase; rfl

theorem LstAt.det {h : Heap} {a : Addr} {vs ws : List Value} (x : LstAt h a vs) (y : LstAt h a ws) : vs = ws := by
  obtain ⟨n, e⟩ := x
  obtain ⟨m, e'⟩ := y
  rw [e] at e'
  simp at e'
  exact e'.1

theorem take_body (ok : t.Ok (scopeAt 41).names) (hL : t.g.mg "len" = none ∧ t.g.mb "len" = some (.builtin "len")) {m : Int} (hm : 0 < m) {kR : V → Prop} (hk : ∀ c : Int, 0 ≤ c → c < m → kR (.int c)) {Q : Flow → Shared → Prop}
    (st : St t X ⟨[("box", .box), ("many", .int m)], none⟩ s) (hR : ∀ d v s', kR d → Core t t.X0 s' → Rep t.X0 s'.heap d v → Q (.ret v) s') : wpAny (model t.g.prog t.g.w) t.A (execs (bodyAt 41) t.env) Q noE s := by
  have lastStep : ∀ (x : Int) s', St t X ⟨[("cell", .int x), ("box", .box), ("many", .int m)], none⟩ s' → wpAny (model t.g.prog t.g.w) t.A (execs ((bodyAt 41).drop 2) t.env) Q noE s' := fun x s' st' => by
    have hv : vc (fun _ => none) 20 ⟨(scopeAt 41).names, []⟩ ((bodyAt 41).drop 2) ⟨[("cell", .int x), ("box", .box), ("many", .int m)], none⟩ kR fun _ => False := by
      conv => whnf
      refine ⟨by omega, ?_⟩
      have : x.fmod m = x % m := Int.fmod_eq_emod_of_nonneg _ (by omega)
      rw [this]
      exact hk _ (Int.emod_nonneg _ (by omega)) (Int.emod_lt_of_pos _ hm)
    exact vc_ok hv (t := t) ok (fun f S e => by cases e) st' (fun _ _ _ h => h.elim) hR
  have hcell : (scopeAt 41).names.lookup ("cell" : Str) = some .local := by rfl
  refine wpAny_execs_cons (wpAny_Assign_Subscript (wpAny_BinOp (box_sub1 ok st rfl fun n u tk => wpAny_Constant_int (add_int ?_))) (swaps_sub ..))
  have st₂ : St t X _ { s with toks := tk + 1 + 1 } := st.keep .toks
  obtain ⟨b, c, n', u', is, vs, mm, hB, hn, hh⟩ := box_held st₂ (x := "box") rfl
  refine name_held ok hn hh (wpAny_Constant_int ?_)
  refine list_set_plain hB.keepT.top (by decide) (by decide) (by show (1 : Int) < ((2 : Nat) : Int); decide) fun h' hl hs => ?_
  have p₃ := Stp.boxTop (tk := tk + 1 + 1 + 1) hB (m := n + 1) (v := tk + 1) hl hs
  have st₃ := st₂.keep p₃
  refine wpAny_execs_cons ?_
  refine wpAny_Assign_Name (IfExp_ (wpAny_isTrue_Compare1 (call1 (c := ⟨(scopeAt 41).names, []⟩) ok rfl (.inr hL) (.inl ⟨_, rfl⟩) rfl st₃.wf.base (box_sub0 ok st₃ rfl fun b c n u is vs tk₄ hB => ⟨st₃.wf.base, ?_⟩)) rfl)) rfl
  have hlen : vs.length ≤ 100 := by rw [hB.nums.1.length]; exact hB.nums.2
  refine PySem.Calls.call_len_list hB.cell.isList (by simp only [List.size_toArray]; omega) (wpAny_Constant_int (gt_int (wpAny_truthy_bool ?_)))
  have st₆ : ∀ tk, St t X _ { s with heap := h', toks := tk } := fun tk => st₃.keep (Stp.toks (tk := tk))
  by_cases hz : vs = []
  · rw [if_neg (by rw [hz]; decide)]
    refine wpAny_BinOp (wpAny_BinOp (wpAny_Constant_int (box_sub1 ok (st₆ _) rfl fun n5 u5 tk5 => mul_int ?_ (IntMulOk.of_left (by decide)))))
    refine wpAny_BinOp (box_sub1 ok (st₆ _) rfl fun n6 u6 tk6 => wpAny_Constant_int (floordiv_int (by decide) ?_ (Or.inr (room_of ok (st₆ _)))))
    refine add_int ?_
    refine store_ok ok (st₆ _) (.inl hcell) rfl (show Rep X _ (.int _) _ from ⟨_, rfl⟩) fun s₉ st₉ _ => lastStep _ _ st₉
  · rw [if_pos (by
      have : 0 < vs.length := List.length_pos_iff.mpr hz
      simp only [List.size_toArray, gt_iff_lt, decide_eq_true_eq]; omega)]
    refine call_method (T := "list") (id := "list.pop") base_sub rfl (by decide) rfl F.plainAttrs_list F.slot_list_pop F.type_list_pop (box_sub0 ok (st₆ _) rfl fun b2 c2 n2 u2 is2 vs2 tk2 hB2 => ?_)
    have e12 := hB.bx.symm.trans hB2.bx
    cases e12
    have hvs : vs2 = vs := LstAt.det hB2.cell hB.cell
    subst hvs
    obtain ⟨nn, hcell2⟩ := id hB2.cell
    refine ⟨⟨_, hcell2, rfl⟩, fun a e => by cases e; exact ⟨_, hcell2, rfl⟩, ?_⟩
    refine PySem.Calls.callWith_builtin rfl (PySem.Calls.evalArgs_plain (wpAny_items_cons (wpAny_Constant_int (wpAny_items_nil ?_)) rfl))
    match vs2, is2, hB2.nums, hz, hcell2 with
    | v0 :: vr, i0 :: ir, hnums, _, hcell2 =>
      obtain ⟨⟨⟨t0, rfl⟩, hr⟩, hlen2⟩ := hnums
      refine call_meets F.slot_list_pop ⟨_, hcell2, rfl⟩ F.entry_list_pop (F.args_list_pop_2 _ _) (MeetsSeq.list_pop_at c (Value.int i0 t0 :: vr).toArray nn 0 _ 0 (.int i0 t0) (by decide) (by simp [seqIndex?]) (by simp) (by simp only [List.size_toArray]; exact Nat.le_trans hlen (by decide))) ⟨hcell2, ?_⟩
      obtain ⟨n', e⟩ := mapSeq_list (fun xs => xs.eraseIdxIfInBounds 0) (Value.int i0 t0 :: vr).toArray nn
      have e2 : (Value.int i0 t0 :: vr).toArray.eraseIdxIfInBounds 0 = vr.toArray := by simp [Array.eraseIdxIfInBounds]
      rw [e2] at e
      have hl2 : LstAt (h'.update c (Obj.mapSeq fun xs => xs.eraseIdxIfInBounds 0)) c vr := ⟨n', by rw [Heap.get?_update_self _ hcell2 (by rw [e]; rfl), e]⟩
      have p9 : Stp X { s with heap := h', toks := tk2 + 1 } { s with heap := h'.update c (Obj.mapSeq fun xs => xs.eraseIdxIfInBounds 0), toks := tk2 + 1 } :=
        Stp.boxCell (s := { s with heap := h', toks := tk2 + 1 }) (is2 := ir) hB2.keepT hl2 ⟨hr, by simp at hlen2; omega⟩ (Heap.SameBut.update ..)
      refine store_ok ok ((st₆ _).keep p9) (.inl hcell) rfl (show Rep X _ (.int i0) _ from ⟨_, rfl⟩) fun s₉ st₉ _ => lastStep _ _ st₉
end
end Mine

namespace Mine

noncomputable def sDivR : Spec | [.poly a, .poly b], k => divPre a b ∧ b ≠ [] ∧ k (.bool true) | _, _ => False
theorem divr_ok {g : Gl} (G : g.Ok) (seer : g.B.NoSeer) {n : Nat} {ad : Addr} {fd : FuncData} (F : FnAt g ad fd (bodyAt 52) ["a", "b"]) (hsc : fd.scope.names = (scopeAt 52).names) (hT : TabOk g n fun x => divT.lookup x) : Calls g (n + 1) (.ref ad) sDivR := by
  refine fn_frame G seer F fun X vs k hS => ?_
  unfold sDivR at hS
  split at hS
  · rename_i a b
    obtain ⟨h1, hb, hk⟩ := hS
    refine ⟨_, fun _ _ _ r => r, rfl, fun t e1 e2 e3 ok s₁ Q' st hN hR => ?_⟩
    subst e1 e2
    rw [hsc] at ok
    have ok' : t.Ok (⟨(scopeAt 52).names, []⟩ : Cx).ks := ok
    refine wpAny_execs_cons (wpAny_Try_except (wpAny_noRaise (vc_ok (div_try h1 hb (kR := fun _ => False) (kN := fun τ => ∃ q r, DM a b q r ∧ τ = ⟨[("rest", .poly r), ("quotient", .poly q), ("a", .poly a), ("b", .poly b)], none⟩) fun q r hD => ⟨q, r, hD, rfl⟩) (t := t) ok' hT st
      (fun τ X' s' hk' le st' => ?_) fun d v s' h _ _ => h.elim)))
    obtain ⟨q, r, hD, rfl⟩ := hk'
    refine wpAny_execs_nil ?_
    exact vc_ok (div_rest h1 hb hD (k := k) hk) (t := t) ok' hT st' (fun τ X'' s'' h le' st'' => hN τ X'' s'' h (le.trans le') st'') hR
  · exact hS.elim

noncomputable def frs (A : Around) : List Addr := match A.frames with | some l => l.filterMap (·.frame) | none => []
/-- all is kept but for what the frames' records note -/
structure WStp (A : Around) (X : Av) (s s' : Shared) : Prop where
  keep : ∀ a o, ¬ X.inB a → a ∉ frs A → s.heap.get? a = some o → s'.heap.get? a = some o
  ns : ∀ a m, s.heap.Ns a m → s'.heap.Ns a m
  box : ∀ b c, X.bx = some (b, c) → ∀ n t is vs, LstAt s.heap b [.ref c, .int n t] → LstAt s.heap c vs → BoxL is vs → ∃ n' t' is' vs', LstAt s'.heap b [.ref c, .int n' t'] ∧ LstAt s'.heap c vs' ∧ BoxL is' vs'
  rest : ∃ h' tk, s' = { s with heap := h', toks := tk }

theorem inB_list {g : Gl} {X : Av} {s : Shared} (wf : Wf g X s) {a : Addr} (h : X.inB a) : ∃ vs, LstAt s.heap a vs := by
  obtain ⟨b, c, e, h⟩ := h
  obtain ⟨n, t, is, vs, h1, h2, _⟩ := wf.box b c e
  rcases h with rfl | rfl
  · exact ⟨_, h1⟩
  · exact ⟨_, h2⟩
theorem Stp.weak {g : Gl} {A : Around} {X : Av} {s s' : Shared} (wf : Wf g X s) (p : Stp X s s') : WStp A X s s' where
  keep a o i _ e := p.keep a o i e
  ns a m h := h.at' fun o e => p.keep a o (fun i => by obtain ⟨vs, l⟩ := inB_list wf i; exact (not_list_of_ns h vs).1 l) e
  box := p.box
  rest := p.rest

theorem St.wkeep {t : Rt} {X : Av} {σ : Sto} {s s' : Shared} (h : St t X σ s) (hc : t.env.cells = []) (hA : frs t.A = [t.env.locals]) (ho : σ.own = none) (p : WStp t.A X s s') : St t X σ s' := by
  obtain ⟨m, hn, hv, _⟩ := h.vars
  have ne : ∀ a vs, (LstAt s.heap a vs ∨ TupAt s.heap a vs) → a ∉ frs t.A := fun a vs hh q => by
    rw [hA] at q
    simp only [List.mem_singleton] at q
    subst q
    exact hh.elim (not_list_of_ns hn vs).1 (not_list_of_ns hn vs).2
  have sit : Sits X s.heap s'.heap := ⟨fun a vs z ⟨n, e⟩ => ⟨n, p.keep a _ (noB h.wf.ok z) (ne a vs (.inl ⟨n, e⟩)) e⟩, fun a vs z ⟨n, e⟩ => ⟨n, p.keep a _ (noB h.wf.ok z) (ne a vs (.inr ⟨n, e⟩)) e⟩⟩
  have nl : ∀ x c, ¬ t.env.cells.lookup x = some c := fun x c e => by rw [hc] at e; simp at e
  refine ⟨⟨⟨h.wf.ok, fun a o e => ?_, h.wf.zB, fun b c e => ?_, fun a z => ?_⟩, h.core.le, fun a o k => ?_, h.core.kL, h.core.kC, h.core.kB, h.core.Lb, fun x c e => (nl x c e).elim, h.core.Ci, h.core.LB, h.core.CB, fun d v g => (h.core.gh d v g).sit sit, rest_trans h.core.rest p.rest⟩,
    m, p.ns _ _ hn, fun x d e => ?_, fun x q e => by rw [ho] at e; cases e⟩
  · refine p.keep a o (fun i => by have := h.wf.zB a (h.wf.ok.mem a i); rw [e] at this; cases this) (fun q => ?_) (h.wf.base a o e)
    rw [hA] at q
    simp only [List.mem_singleton] at q
    subst q
    rw [h.core.LB] at e; cases e
  · obtain ⟨n, t, is, vs, h1, h2, h3⟩ := h.wf.box b c e
    exact p.box b c e n t is vs h1 h2 h3
  · obtain ⟨o, e⟩ := h.wf.zin a z
    by_cases i : X.inB a
    · obtain ⟨b, c, eb, q⟩ := i
      obtain ⟨n, t, is, vs, h1, h2, h3⟩ := h.wf.box b c eb
      obtain ⟨n', t', is', vs', ⟨k1, h1'⟩, ⟨k2, h2'⟩, _⟩ := p.box b c eb n t is vs h1 h2 h3
      rcases q with rfl | rfl
      · exact ⟨_, h1'⟩
      · exact ⟨_, h2'⟩
    · by_cases f : a ∈ frs t.A
      · rw [hA] at f
        simp only [List.mem_singleton] at f
        subst f
        obtain ⟨o', _, _, e', _⟩ := p.ns _ _ hn
        exact ⟨o', e'⟩
      · exact ⟨o, p.keep a o i f e⟩
  · refine p.keep a o (h.core.kB a o k) (fun q => ?_) (h.core.kept a o k)
    rw [hA] at q
    simp only [List.mem_singleton] at q
    subst q
    exact h.core.kL o k
  · obtain ⟨v, hh, r⟩ := hv x d e
    exact ⟨v, hh.imp id fun ⟨_, c, b, _⟩ => (nl x c b).elim, r.sit sit⟩

/-- how _law_division_right answers -/
noncomputable def DivW (g : Gl) (n : Nat) (f : Value) : Prop :=
  ∀ (A : Around) (X : Av) (s : Shared) (ws : List Value) (a b : List Rat), Room n A → Wf g X s → (∃ l, A.frames = some l ∧ s.heap.FunFrames g.B l) → (∀ a ∈ frs A, ∃ m, s.heap.Ns a m) → divPre a b → LR (Rep X s.heap) [.poly a, .poly b] ws →
    wpAny (model g.prog g.w) A (call f ws) (fun v s' => v = .bool true ∧ WStp A X s s') noE s
end Mine

namespace Mine
local macro_rules | `(tactic| walk_at "w") => `(tactic| conv => whnf)

theorem blk_then {T : Tab} {r : EVs} (S : Snd T r) {t : Rt} {c : Cx} (ok : t.Ok c.ks) (hT : TabOk t.g t.n T) {kR : V → Prop} {l2 : List Stmt} : ∀ {l : List Stmt} {X : Av} {σ : Sto} {k : Sto → Prop}, blk (fun τ s k => r.ex c τ s kR k) l σ k → ∀ s (Q : Flow → Shared → Prop), St t X σ s →
    (∀ τ X' s', k τ → X.Le X' → St t X' τ s' → wpAny (model t.g.prog t.g.w) t.A (execs l2 t.env) Q noE s') → (∀ d v s', kR d → Core t t.X0 s' → Rep t.X0 s'.heap d v → Q (.ret v) s') → wpAny (model t.g.prog t.g.w) t.A (execs (l ++ l2) t.env) Q noE s
  | [], X, σ, k, h, s, Q, st, hN, hR => hN _ _ _ h (.refl _) st
  | b :: l, X, σ, k, h, s, Q, st, hN, hR => by
    refine wpAny_execs_cons (S.ex t c σ b kR _ X ok hT h s _ st (fun τ X' s' hk le st' => ?_) fun d v s' hk hc hr => hR d v s' hk hc hr)
    exact blk_then S ok hT hk s' Q st' (fun τ' X'' s'' hk' le' st'' => hN _ _ _ hk' (le.trans le') st'') hR

theorem ints_lr {vs : List Value} {ns : List Int} (h : IntsAre vs ns) : LR RInt ns vs := by
  induction h with
  | nil => trivial
  | cons n t _ ih => exact ⟨⟨t, rfl⟩, ih⟩

theorem lr_take {α : Type} {R : α → Value → Prop} : ∀ {l : List α} {vs : List Value} (h : LR R l vs) (n : Nat), LR R (l.take n) (vs.take n)
  | [], [], _, n => by simp [LR]
  | _ :: _, _ :: _, _, 0 => trivial
  | _ :: _, _ :: _, h, n + 1 => ⟨h.1, lr_take h.2 n⟩
  | [], _ :: _, h, _ => h.elim
  | _ :: _, [], h, _ => h.elim

structure LawEnv (g : Gl) (n : Nat) (A : Around) (env : Env) : Prop where
  room : Room n A
  fr : A.frames = some [env]
  scope : env.scope = scopeAt 53
  globals : env.globals = mainGlobals
  builtins : env.builtins = builtinsNs
  cells : env.cells = []
  frame : env.frame = some env.locals
  LB : g.B.get? env.locals = none

noncomputable def lawRt (g : Gl) (n : Nat) (A : Around) (env : Env) (X0 : Av) (s0 : Shared) : Rt := { g := g, n := n, env := env, A := A, X0 := X0, K := fun a o => g.B.get? a = some o, G := fun _ _ => False, s0 := s0 }

theorem lawRt_ok {g : Gl} (G : g.Ok) (seer : g.B.NoSeer) {n : Nat} {A : Around} {env : Env} (L : LawEnv g n A env) {X0 : Av} (hX : X0.Ok) {s0 : Shared} : (lawRt g n A env X0 s0).Ok (scopeAt 53).names where
  g := G
  kind := by show env.scope.kind = _; rw [L.scope]; rfl
  globals := L.globals
  builtins := L.builtins
  x0 := hX
  room := L.room
  cells := fun x hx => by
    exfalso
    have hx : env.scope.names.lookup x = some .cell := hx
    rw [L.scope] at hx
    have : (x, NameKind.cell) ∈ (scopeAt 53).names := mem_of_lookup hx
    revert this
    have e : ∀ y ∈ (scopeAt 53).names, y.2 ≠ .cell := by decide
    exact fun m => e _ m rfl
  seer := fun h hb => SeerAt.of (seer.keeps hb) G.tree L.fr (by rw [L.scope]; rfl) (by rw [L.scope]; rfl) L.builtins L.globals
  dbg := by show env.scope.names.lookup _ = _; rw [L.scope]; rfl
  cdt := by show env.scope.names.lookup _ = _; rw [L.scope]; rfl
  ks := fun x => by
    have e : env.kindOf x = (scopeAt 53).names.lookup x := by unfold Env.kindOf; rw [L.scope]
    exact ⟨fun h => e.trans h, fun h => e.trans h, fun h => e.trans h⟩

theorem lawSt {g : Gl} {n : Nat} {A : Around} {env : Env} (L : LawEnv g n A env) {X0 : Av} {s : Shared} {σ : Sto} (wf : Wf g X0 s) {m : Str → Option Value} (hn : s.heap.Ns env.locals m) (nB : ¬ X0.inB env.locals)
    (hv : ∀ x d, σ.ρ.lookup x = some d → ∃ v, (env.scope.names.lookup x = some .local ∧ m x = some v) ∧ Rep X0 s.heap d v) (ho : σ.own = none) {s0 : Shared} (hr : ∃ h' tk, s = { s0 with heap := h', toks := tk }) : St (lawRt g n A env X0 s0) X0 σ s := by
  have nl : ∀ x c, ¬ env.cells.lookup x = some c := fun x c e => by rw [L.cells] at e; simp at e
  refine ⟨⟨wf, .refl _, wf.base, fun o k => ?_, fun x c e => (nl x c e).elim, fun a o k i => ?_, nB, fun x c e => (nl x c e).elim, fun x y c e => (nl x c e).elim, L.LB, fun x c e => (nl x c e).elim, fun _ _ k => k.elim, hr⟩,
    m, hn, fun x d e => ?_, fun x p e => by rw [ho] at e; cases e⟩
  · have k : g.B.get? env.locals = some o := k
    rw [L.LB] at k; cases k
  · have k : g.B.get? a = some o := k
    have := wf.zB a (wf.ok.mem a i)
    rw [k] at this; cases this
  · obtain ⟨v, ⟨h1, h2⟩, r⟩ := hv x d e
    exact ⟨v, .inl ⟨h1, h2⟩, r⟩

theorem callD {t : Rt} {X : Av} {σ : Sto} {s : Shared} {c : Cx} {T : Tab} (ok : t.Ok c.ks) (hT : TabOk t.g t.n T) (hc : t.env.cells = []) (hfr : t.A.frames = some [t.env]) (hf : t.env.frame = some t.env.locals) (hk : t.env.scope.kind ≠ .module) (st : St t X σ s) (ho : σ.own = none)
    {fD : Value} (hg : isGlob c "_law_division_right" = true) (hD : t.g.mg "_law_division_right" = some fD) (hDk : Keeps t.g fD) (hW : DivW t.g t.n fD) {m : Nat} {args : List Expr} (hst : args.all noStar = true) {p pos : Pos} {Q : Value → Shared → Prop}
    (h : evs ((EV T m).ev c σ) args fun ds => ∃ a b, ds = [.poly a, .poly b] ∧ divPre a b) (hQ : ∀ s', St t X σ s' → Q (.bool true) s') : wpAny (model t.g.prog t.g.w) t.A (eval (.Call (.Name "_law_division_right" p) args [] pos) t.env) Q noE s := by
  have hA : frs t.A = [t.env.locals] := by unfold frs; rw [hfr]; simp [hf]
  refine callG ok ((snd T m).star c σ) (fun e k h => (snd T m).ev t c σ e k X ok hT h) hg (.inl hD) hDk hst h st fun ds ws s' hk' hp hr => ?_
  obtain ⟨a, b, rfl, hpre⟩ := hk'
  have st' := st.keep hp
  obtain ⟨mm, hn, -, -⟩ := st'.vars
  have hns : ∀ a ∈ frs t.A, ∃ m, s'.heap.Ns a m := fun a z => by
    rw [hA] at z
    simp only [List.mem_singleton] at z
    subst z
    exact ⟨mm, hn⟩
  obtain ⟨o, es, ep, ho', hd', -⟩ := hn
  refine wpAny_mono (hW t.A X s' ws a b ok.room st'.wf ⟨_, hfr, hk, ⟨_, o, hf, st'.core.LB, ho', fun vs e => by rw [hd'] at e; cases e⟩, trivial⟩ hns hpre hr) (fun v s'' hv => ?_) fun _ _ x => x
  obtain ⟨rfl, p⟩ := hv
  exact hQ s'' (st'.wkeep hc hA ho p)

theorem law_ok {g : Gl} (G : g.Ok) (seer : g.B.NoSeer) {n : Nat} (hT : TabOk g n fun x => lawT.lookup x) (hL : g.mg "list" = none ∧ g.mb "list" = some (.type "list")) {fD : Value} (hD : g.mg "_law_division_right" = some fD) (hDk : Keeps g fD) (hW : DivW g n fD)
    {A : Around} {env : Env} (L : LawEnv g n A env) {s : Shared} {m : Str → Option Value} (hn : s.heap.Ns env.locals m) {a : Addr} (hm : m "script" = some (.ref a)) (hb : Base g s) {vs : List Value} {ns : List Int} (hl : s.heap.IsList a vs.toArray) (hlen : vs.length ≤ 1000) (hi : IntsAre vs ns) :
    wpAny (model g.prog g.w) A (execs (bodyAt 53) env) (fun f s' => f = .ret (.bool true) ∧ (∃ m', s'.heap.Ns env.locals m') ∧ Base g s' ∧ ∃ h' tk, s' = { s with heap := h', toks := tk }) noE s := by
  have hk : env.scope.kind = .function := by rw [L.scope]; rfl
  have hX0 : (⟨[], none⟩ : Av).Ok := ⟨fun a ⟨b, c, e, _⟩ => by cases e⟩
  have ok0 := lawRt_ok G seer L hX0 (s0 := s)
  have wf0 : Wf g ⟨[], none⟩ s := ⟨hX0, hb, fun _ m => (List.not_mem_nil m).elim, fun _ _ e => (by cases e), fun _ m => (List.not_mem_nil m).elim⟩
  have st0 : St (lawRt g n A env ⟨[], none⟩ s) ⟨[], none⟩ ⟨[], none⟩ s := lawSt L wf0 hn (fun ⟨b, c, e, _⟩ => by cases e) (by simp) rfl ⟨_, _, rfl⟩
  have ekind : ∀ x, env.kindOf x = (scopeAt 53).names.lookup x := fun x => by unfold Env.kindOf; rw [L.scope]
  refine wpAny_execs_cons (wpAny_Assign_Name (List_ (wpAny_items_cons ?_ rfl)) rfl)
  refine call1 (t := lawRt g n A env ⟨[], none⟩ s) (c := ⟨(scopeAt 53).names, []⟩) ok0 rfl (.inr hL) (.inr (.inl ⟨_, rfl⟩)) rfl hb ?_
  refine Subscript_ (wpAny_Name (wpAny_loadName_local hk ((ekind _).trans rfl) hn hm ?_) (by decide))
  refine wpAny_Slice ?_
  rw [evalPart_none]
  refine wpAny_pure ?_
  rw [evalPart_some]
  refine wpAny_Constant_int ?_
  refine wpAny_pure ?_
  generalize hH1 : s.heap.push { cls := .type "slice", data := .fields #[.none, .int 24 s.toks, .none] } = H1
  have k1 : ∀ b o, s.heap.get? b = some o → H1.get? b = some o := fun b o e => by rw [← hH1]; exact Heap.get?_push_of_some _ e
  have z1 : H1.objs.size = s.heap.objs.size + 1 := by rw [← hH1, Heap.size_push]
  refine subTail_slice (lo := none) (hi := some 24) (by rw [← hH1]; exact hl.push _) (by rw [← hH1]; exact Heap.IsSliceOf.new ..) .none (.int _ _) .none ?_ (by simp only [List.size_toArray]; exact Nat.le_trans hlen (by decide))
  have hpick : slicePick vs.toArray none (some 24) none = (vs.take 24).toArray := by
    have := slicePick_upto' vs.toArray 24
    simpa using this
  rw [hpick]
  generalize hH2 : H1.push { cls := .type "list", data := .seq (vs.take 24).toArray } = H2
  have k2 : ∀ b o, H1.get? b = some o → H2.get? b = some o := fun b o e => by rw [← hH2]; exact Heap.get?_push_of_some _ e
  have z2 : H2.objs.size = s.heap.objs.size + 2 := by rw [← hH2, Heap.size_push, z1]
  have l2 : H2.get? H1.objs.size = some { cls := .type "list", data := .seq (vs.take 24).toArray } := by rw [← hH2]; exact Heap.get?_push_size _ rfl
  refine ⟨fun b o e => k2 _ _ (k1 _ _ (hb b o e)), ?_⟩
  refine call_list_seq (hsz := by simp only [List.size_toArray]; have := List.length_take_le 24 vs; exact Nat.le_trans this (by decide)) H1.objs.size (.inl rfl) l2 rfl rfl fun H3 c' k3 l3 => ?_
  refine wpAny_items_cons (wpAny_Constant_int (wpAny_items_nil (wpAny_newObj_type ?_ (by show _ ≤ sizeLine; simp; decide)))) rfl
  have hc3 : LstAt H3 H2.objs.size (vs.take 24) := ⟨c', l3⟩
  have z3 : H2.objs.size < H3.objs.size := Heap.lt_size l3
  dsimp only
  generalize hH4 : H3.push { cls := .type "list", data := .seq [Value.ref H2.objs.size, Value.int 0 (s.toks + 1)].toArray } = H4
  have k4 : ∀ b o, H3.get? b = some o → H4.get? b = some o := fun b o e => by rw [← hH4]; exact Heap.get?_push_of_some _ e
  have l4 : LstAt H4 H3.objs.size [.ref H2.objs.size, .int 0 (s.toks + 1)] := ⟨_, by rw [← hH4]; exact Heap.get?_push_size _ rfl⟩
  have kk : ∀ b o, s.heap.get? b = some o → H4.get? b = some o := fun b o e => k4 _ _ (k3 _ _ (k2 _ _ (k1 _ _ e)))
  have hn4 : H4.Ns env.locals m := hn.at' fun o e => kk _ _ e
  refine wpAny_storeName_local ((ekind _).trans rfl) hn4 (fun H5 hn5 hs5 => ?_) (by rw [hk]; rfl)
  have hk5 : ∀ b o, b ≠ env.locals → s.heap.get? b = some o → H5.get? b = some o := fun b o ne e => (hs5.2 b ne).trans (kk b o e)
  have hlt : env.locals < s.heap.objs.size := hn.lt
  have nc : H2.objs.size ≠ env.locals := Nat.ne_of_gt (by rw [z2]; exact Nat.lt_add_right 2 hlt)
  have nb : H3.objs.size ≠ env.locals := Nat.ne_of_gt (Nat.lt_trans (by rw [z2]; exact Nat.lt_add_right 2 hlt) z3)
  have hc5 : LstAt H5 H2.objs.size (vs.take 24) := by
    obtain ⟨cl, e⟩ := hc3
    exact ⟨cl, (hs5.2 _ nc).trans (k4 _ _ e)⟩
  have hb5 : LstAt H5 H3.objs.size [.ref H2.objs.size, .int 0 (s.toks + 1)] := by
    obtain ⟨cl, e⟩ := l4
    exact ⟨cl, (hs5.2 _ nb).trans e⟩
  generalize hcc : H2.objs.size = c at *
  generalize hbb : H3.objs.size = b at *
  have hX : (⟨[b, c], some (b, c)⟩ : Av).Ok := ⟨fun a ⟨b', c', e, h⟩ => by cases e; rcases h with rfl | rfl <;> simp⟩
  have gB : ∀ a, s.heap.objs.size ≤ a → g.B.get? a = none := fun a h => by
    cases e : g.B.get? a with
    | none => rfl
    | some o => exact absurd (Heap.lt_size (hb a o e)) (Nat.not_lt.mpr h)
  have gBc : g.B.get? c = none := gB _ (by rw [z2]; exact Nat.le_add_right _ 2)
  have gBb : g.B.get? b = none := gB _ (Nat.le_of_lt (Nat.lt_of_le_of_lt (by rw [z2]; exact Nat.le_add_right _ 2) z3))
  have ltk : LR RInt (ns.take 24) (vs.take 24) := lr_take (ints_lr hi) 24
  have wf : Wf g ⟨[b, c], some (b, c)⟩ ⟨H5, s.gens, s.drawn, s.toks + 1 + 1 + 1, s.os⟩ := by
    refine ⟨hX, fun a o e => hk5 a o (fun q => ?_) (hb a o e), fun a m => ?_, fun b' c' e => ?_, fun a m => ?_⟩
    · subst q; rw [L.LB] at e; cases e
    · simp only [List.mem_cons, List.not_mem_nil, or_false] at m
      rcases m with rfl | rfl
      · exact gBb
      · exact gBc
    · cases e
      exact ⟨_, _, _, _, hb5, hc5, ltk, Nat.le_trans (List.length_take_le 24 ns) (by decide)⟩
    · simp only [List.mem_cons, List.not_mem_nil, or_false] at m
      rcases m with rfl | rfl
      · exact ⟨_, hb5.choose_spec⟩
      · exact ⟨_, hc5.choose_spec⟩
  have st : St (lawRt g n A env ⟨[b, c], some (b, c)⟩ s) ⟨[b, c], some (b, c)⟩ ⟨[("box", .box)], none⟩ ⟨H5, s.gens, s.drawn, s.toks + 1 + 1 + 1, s.os⟩ := by
    refine lawSt L wf hn5 (fun ⟨b', c', e, h⟩ => ?_) (fun x d e => ?_) rfl ⟨_, _, rfl⟩
    · cases e
      rcases h with h | h
      · exact nb h.symm
      · exact nc h.symm
    · have e : (([("box", V.box)] : List (Str × V)).lookup x) = some d := e
      rw [List.lookup_cons] at e
      split at e
      · rename_i q
        obtain rfl := eq_of_beq q
        cases e
        exact ⟨.ref b, ⟨(ekind _).trans rfl, if_pos rfl⟩, b, c, rfl, rfl⟩
      · simp at e
  have ok : (lawRt g n A env ⟨[b, c], some (b, c)⟩ s).Ok (⟨(scopeAt 53).names, lawS⟩ : Cx).ks := lawRt_ok G seer L hX (s0 := s)
  refine blk_then (t := lawRt g n A env ⟨[b, c], some (b, c)⟩ s) (l := (((bodyAt 53).drop 1).take 5)) (l2 := (bodyAt 53).drop 6) (kR := fun _ => False) (snd _ 40) ok hT
    (law_mid (kN := fun τ => ∃ a b, Sma a ∧ Sma b ∧ τ = ⟨[("a", .poly a), ("b", .poly b), ("made", .polys (madeL a b))], none⟩) fun a b ha hb => ⟨a, b, ha, hb, rfl⟩) _ _ st (fun τ X' s1 hk1 le1 st1 => ?_) fun _ _ _ h _ _ => h.elim
  obtain ⟨p, q, hp, hq, rfl⟩ := hk1
  have hke : env.scope.kind ≠ .module := by rw [hk]; decide
  refine wpAny_execs_cons (wpAny_Return_some (BoolOp_and ?_))
  refine callD (m := 40) (t := lawRt g n A env ⟨[b, c], some (b, c)⟩ s) (c := ⟨(scopeAt 53).names, lawS⟩) ok hT L.cells L.fr L.frame hke st1 rfl rfl hD hDk hW rfl ⟨_, _, rfl, sma_pre hp hq⟩ fun s2 st2 => ?_
  refine wpAny_truthy_bool ?_
  rw [if_pos rfl]
  refine BoolOp_and ?_
  refine callD (m := 40) (t := lawRt g n A env ⟨[b, c], some (b, c)⟩ s) (c := ⟨(scopeAt 53).names, lawS⟩) ok hT L.cells L.fr L.frame hke st2 rfl rfl hD hDk hW rfl ?_ fun s3 st3 => ?_
  · walk_at "w"
    refine ⟨⟨(by decide : -((7 : Nat) : Int) ≤ 2), (by decide : (2 : Int) < ((7 : Nat) : Int)), by show 7 ≤ szL; decide⟩, ?_⟩
    exact ⟨_, _, rfl, made_pre hp hq⟩
  refine wpAny_truthy_bool ?_
  rw [if_pos rfl]
  refine BoolOp_one ?_
  refine callD (m := 40) (t := lawRt g n A env ⟨[b, c], some (b, c)⟩ s) (c := ⟨(scopeAt 53).names, lawS⟩) ok hT L.cells L.fr L.frame hke st3 rfl rfl hD hDk hW rfl ⟨_, _, rfl, sma_pre hq hp⟩ fun s4 st4 => ?_
  refine ⟨rfl, ?_, st4.core.wf.base, ?_⟩
  · obtain ⟨m4, h4, -⟩ := st4.vars
    exact ⟨m4, h4⟩
  · exact st4.core.rest
end Mine

set_option maxRecDepth 100000
namespace Mine

/-- an error on its way, whose object has an own dict -/
structure Fly (base : Heap) (l : List Env) (e : Addr) (C : Value) (dx : Addr) (fl : Value) (h : Heap) : Prop where
  stays : base.StaysIn h
  new : base.get? e = none
  frames : h.FunFrames base l
  obj : ∃ vs sl T oT ts, h.get? e = some { cls := C, dict := some dx, data := .fields vs, slots := sl } ∧ vs[1]? = some (.ref T) ∧ base.get? T = none ∧ T ≠ e ∧ h.get? T = some oT ∧ oT.data = .fields ts ∧ ts[3]? = some fl

theorem Fly.tail {base : Heap} {env : Env} {l : List Env} {e : Addr} {C : Value} {dx : Addr} {fl : Value} {h : Heap} (x : Fly base (env :: l) e C dx fl h) : Fly base l e C dx fl h :=
  ⟨x.stays, x.new, x.frames.2.2, x.obj⟩

section
variable {M : Model} {A : Around} {E : Value → Shared → Prop} {s : Shared} {base : Heap} {env : Env} {outer : List Env} {L e : Addr} {C : Value} {dx : Addr}

theorem entryD {vs : Array Value} {sl : Array (Option Value)} {head : Value} {hadNext : Bool} {Q : Unit → Shared → Prop}
    (hfr : A.frames = some (env :: outer)) (hl : s.heap.FunFrames base (env :: outer)) (hf : env.frame = some L)
    (he : s.heap.get? e = some { cls := C, dict := some dx, data := .fields vs, slots := sl }) (hkb : base.StaysIn s.heap) (hen : base.get? e = none) (hsz : 1 < vs.size)
    (h : ∀ h', Fly base (env :: outer) e C dx (rawInt L) h' → s.heap.UpToSlots h' → Q () { s with heap := h' }) :
    wpAny M A (do let a ← frameOf env; let pl ← entryPlaceOf L hadNext; let b ← EntryCells.newEntry head a .none (rawInt L) .none pl; setField (.ref e) 1 b) Q E s := by
  have hene : e ∉ (env :: outer).filterMap (·.frame) := fun hm => by
    obtain ⟨_, o, ho, hnf⟩ := hl.mem hm
    rw [he] at ho; injection ho with ho; subst ho; exact hnf vs rfl
  refine wpAny_bind (wpAny_frameOf_fun hfr hl hf fun h₁ hs₁ => ?_)
  refine wpAny_bind (wpAny_entryPlaceOf fun pl hpl => ?_)
  unfold EntryCells.newEntry newFields
  refine wpAny_bind (wpAny_newObj_type ?_ (hpl.sizeOk5 _ _ _ _ _))
  have he₁ : h₁.get? e = _ := (hs₁.2.1 e hene).trans he
  have kb₁ : base.StaysIn h₁ := fun b o hbo => (hs₁.2.1 b fun hm => by rw [(hl.mem hm).1] at hbo; cases hbo).trans (hkb b o hbo)
  generalize hvs : ([head, .ref L, .none, rawInt L, .none] ++ (if pl.isEmpty then List.replicate 6 Value.none else pl)).toArray = tv
  have h3 : tv[3]? = some (rawInt L) := by
    rw [← hvs]
    first | (simp; done) | (rcases hpl with rfl | ⟨_, _, _, _, _, _, _, rfl⟩ <;> simp)
  have he₂ := Heap.get?_push_of_some (h := h₁) { cls := .type "traceback", dict := none, data := .fields tv } he₁
  refine wpAny_setField he₂ rfl hsz (h _ ?_ ?_)
  all_goals
    have hTe : h₁.objs.size ≠ e := Nat.ne_of_gt (Heap.lt_size he₁)
    have keep : ∀ b o, b ≠ e → h₁.get? b = some o → ((h₁.push { cls := .type "traceback", dict := none, data := .fields tv }).update e (Obj.mapFields (·.setIfInBounds 1 (Value.ref h₁.objs.size)))).get? b = some o := fun b o hbe hb => by
      rw [Heap.get?_update_other _ _ (Ne.symm hbe)]
      exact Heap.get?_push_of_some _ hb
    have noRecord : ∀ b o, s.heap.get? b = some o → (∀ vs, o.data ≠ .fields vs) → b ≠ e := fun b o hb hnf q => by
      rw [q, he] at hb; injection hb with hb; subst hb; exact hnf vs rfl
  · refine ⟨fun b o hbo => keep b o (fun q => by rw [q, hen] at hbo; cases hbo) (kb₁ b o hbo), hen, hl.of_keeps fun b o hb hnf => ?_, ?_⟩
    · obtain ⟨sl, hs⟩ := hs₁.2.2 b o hb
      exact ⟨_, keep b _ (noRecord b o hb hnf) hs, rfl⟩
    · refine ⟨vs.setIfInBounds 1 (.ref h₁.objs.size), sl, h₁.objs.size, { cls := .type "traceback", dict := none, data := .fields tv }, tv, ?_, by simp [hsz], kb₁.fresh, hTe, ?_, rfl, h3⟩
      · rw [Heap.get?_update_self _ he₂ rfl]; rfl
      · exact (Heap.get?_update_other _ _ (Ne.symm hTe)).trans (Heap.get?_push_size h₁ rfl)
  · intro b o hb hnf
    obtain ⟨sl, hs⟩ := hs₁.2.2 b o hb
    exact ⟨sl, keep b _ (noRecord b o hb hnf) hs⟩

theorem flightD {l : List Env} {fl : Value} {Q : Unit → Shared → Prop} (x : Fly base l e C dx fl s.heap)
    (h : ∀ h', Fly base l e C dx .none h' → s.heap.UpToSlots h' → Q () { s with heap := h' }) : wpAny M A (setFlight (.ref e) none) Q E s := by
  obtain ⟨hkb, hen, hl, vs, sl, T, oT, ts, he, h1, hnT, hTe, hT, hdT, h3⟩ := x
  have hsz3 : 3 < ts.size := (Array.getElem?_eq_some_iff.mp h3).1
  have other : ∀ b, b ≠ T → (s.heap.update T (Obj.mapFields (·.setIfInBounds 3 ((none : Option Addr).elim Value.none fun f => rawInt f)))).get? b = s.heap.get? b :=
    fun b hb => Heap.get?_update_other _ _ (Ne.symm hb)
  have noRecord : ∀ b o, s.heap.get? b = some o → (∀ vs, o.data ≠ .fields vs) → b ≠ T := fun b o hb hnf q => by
    rw [q, hT] at hb; injection hb with hb; subst hb; exact hnf ts hdT
  unfold setFlight
  refine wpAny_bind (wpAny_field he rfl h1 ?_)
  rw [if_pos (show (Value.ref T != Value.none) = true from by simp)]
  refine wpAny_setField hT hdT hsz3 (h _ ⟨fun b o hbo => (other b fun q => by rw [q, hnT] at hbo; cases hbo).trans (hkb b o hbo), hen,
    hl.of_keeps fun b o hb hnf => ⟨o, (other b (noRecord b o hb hnf)).trans hb, rfl⟩, ?_⟩ fun b o hb hnf => ⟨o.slots, (other b (noRecord b o hb hnf)).trans hb⟩)
  exact ⟨vs, sl, T, _, _, (other e (Ne.symm hTe)).trans he, h1, hnT, hTe, Heap.get?_update_self _ hT (Obj.isFreed_of_fields (Obj.data_mapFields hdT _)), Obj.data_mapFields hdT _, by simp [hsz3]⟩

theorem leaveD {vs : Array Value} {sl : Array (Option Value)} {Q : Unit → Shared → Prop}
    (hfr : A.frames = some (env :: outer)) (hl : s.heap.FunFrames base (env :: outer)) (hf : env.frame = some L)
    (he : s.heap.get? e = some { cls := C, dict := some dx, data := .fields vs, slots := sl }) (hkb : base.StaysIn s.heap) (hen : base.get? e = none) (h1 : vs[1]? = some .none)
    (h : ∀ h', Fly base outer e C dx .none h' → s.heap.UpToSlots h' → Q () { s with heap := h' }) : wpAny M A (leaving env (.ref e)) Q E s := by
  unfold leaving noteFrame
  simp only [hf]
  refine wpAny_bind (wpAny_bind (wpAny_field he rfl h1 ?_))
  rw [if_neg (by decide)]
  refine entryD hfr hl hf he hkb hen (Array.getElem?_eq_some_iff.mp h1).1 fun h₁ x₁ u₁ => ?_
  exact flightD x₁ fun h₂ x₂ u₂ => h h₂ x₂.tail (u₁.trans u₂)

theorem noteD {Q : Unit → Shared → Prop} (hfr : A.frames = some (env :: outer)) (hf : env.frame = some L) (x : Fly base (env :: outer) e C dx .none s.heap)
    (h : ∀ h', Fly base (env :: outer) e C dx (rawInt L) h' → s.heap.UpToSlots h' → Q () { s with heap := h' }) : wpAny M A (noteFrame (.ref e) env) Q E s := by
  obtain ⟨hkb, hen, hl, vs, sl, T, oT, ts, he, h1, hnT, hTe, hT, hdT, h3⟩ := x
  unfold noteFrame
  simp only [hf]
  refine wpAny_bind (wpAny_field he rfl h1 ?_)
  rw [if_pos (show (Value.ref T != Value.none) = true from by simp)]
  refine wpAny_bind (wpAny_field hT hdT h3 ?_)
  rw [if_neg (show ¬ ((Value.none == rawInt L) = true) from by simp [rawInt])]
  refine wpAny_bind (wpAny_setField hT hdT (Array.getElem?_eq_some_iff.mp h3).1 ?_)
  have other : ∀ b, b ≠ T → (s.heap.update T (Obj.mapFields (·.setIfInBounds 3 Value.none))).get? b = s.heap.get? b := fun b hb => Heap.get?_update_other _ _ (Ne.symm hb)
  have noRecord : ∀ b o, s.heap.get? b = some o → (∀ vs, o.data ≠ .fields vs) → b ≠ T := fun b o hb hnf q => by
    rw [q, hT] at hb; injection hb with hb; subst hb; exact hnf ts hdT
  refine entryD hfr (hl.of_keeps fun b o hb hnf => ⟨o, (other b (noRecord b o hb hnf)).trans hb, rfl⟩) hf ((other e (Ne.symm hTe)).trans he)
    (fun b o hbo => (other b fun q => by rw [q, hnT] at hbo; cases hbo).trans (hkb b o hbo)) hen (Array.getElem?_eq_some_iff.mp h1).1 fun h' x' u' => h h' x' ?_
  intro b o hb hnf
  exact u' b o ((other b (noRecord b o hb hnf)).trans hb) hnf
end
end Mine

set_option maxRecDepth 100000
namespace Mine
open Builtin Builtin.ObjectAttr

noncomputable abbrev bmE : List Value := [.type "Exception", .type "BaseException", .type "object"]

section
variable {M : Model} {A : Around} {E : Value → Shared → Prop} {env : Env}
variable {nm q : Str} {C N : Addr} {bs bm : List Value} {hdct : Bool} {sn : List Str} {sub : List Value} {ab : Bool} {col : Option Bool} {dd : Option Addr} {k0 k1 k2 k3 k5 : Option Value} {newId : String}

theorem raiseD {s : Shared} {x : Sem Value} {Q : Flow → Shared → Prop} (hbase : bm.contains (.type "BaseException") = true) (hh : A.handled = none)
    (h : wpAny M A x (fun v s₁ => ∃ e dx vs sl, v = .ref e ∧ s₁.heap.get? C = some (excClassObj nm q C N bs bm hdct sn sub ab col dd k0 k1 k2 k3 k5 newId) ∧
      s₁.heap.get? e = some { cls := .ref C, dict := some dx, data := .fields vs, slots := sl } ∧ vs[1]? = some .none ∧ E (.ref e) s₁) E s) :
    wpAny M A (raiseStmt env (some x) none) Q E s := by
  have hcB : (Value.ref C :: bm).contains (.type "BaseException") = true := by rw [List.contains_cons, hbase, Bool.or_true]
  unfold raiseStmt
  refine wpAny_bind (wpAny_mono h (fun v s₁ h₁ => ?_) fun _ _ x => x)
  obtain ⟨e, dx, vs, sl, rfl, hC, he, h1, hE⟩ := h₁
  obtain ⟨hp, g, d, tk, os⟩ := s₁
  repeat (first | with_reducible refine wpAny_loadPart_at he ?_ | with_reducible refine wpAny_loadPart_at hC ?_ | (with_reducible refine wpAny_isSubtype_exc hC ?_; rw [hcB]) | wp_step)
  rw [h1]
  refine wpAny_pure ?_
  rw [if_neg (by decide)]
  exact wpAny_pure (wpAny_raiseNew_none hh hE)
end

section
variable {prog : Program} {w : World} {A : Around} {E : Value → Shared → Prop} {h : Heap} {g : Array GenState} {d : Drawn} {t : Nat} {os : OsState}
variable {nm q : Str} {C N x : Addr} {bs : List Value} {sn : List Str} {sub : List Value} {ab : Bool} {col : Option Bool} {dd : Option Addr} {k0 k1 k2 k3 k5 : Option Value} {newId : String}
  {mN mA : Str → Option Value} {name : Str} {v : Value}

theorem mro_exc : mroOf (.type "Exception") = pure bmE := PySem.F.store_Exception.mro
theorem lk_exc_ga : typeLookup (.type "Exception") "__getattribute__" = pure (some (.builtin "BaseException.__getattribute__")) := by rw [typeLookup_type, builtinLookup_eq_fast]; kernel_rfl
theorem canon_exc_ga : (Manifest.canonical "BaseException.__getattribute__" != "object.__getattribute__") = false := by decide +kernel
theorem lk_exc_getattr : typeLookup (.type "Exception") "__getattr__" = pure none := by rw [typeLookup_type, builtinLookup_eq_fast]; kernel_rfl

theorem checkE {M : Model} {nameV : Value} {o : Obj} {Q : Unit → Shared → Prop} (hC : h.get? C = some (excClassObj nm q C N bs bmE true sn sub ab col dd k0 k1 k2 k3 k5 newId))
    (hx : h.get? x = some o) (hc : o.cls = .ref C) (hq : Q () ⟨h, g, d, t, os⟩) : wpAny M A (checkBuiltinCall "BaseException.__getattribute__" ⟨[.ref x, nameV], []⟩) Q E ⟨h, g, d, t, os⟩ := by
  have hk : builtinKind "BaseException.__getattribute__" = some .slot := by decide +kernel
  have hsplit : splitId "BaseException.__getattribute__" = some ("BaseException", "__getattribute__") := by decide +kernel
  have hcB : (Value.ref C :: bmE).contains (.type "BaseException") = true := by rw [List.contains_cons]; exact Bool.or_true _
  have ha := PySem.F.args_bexc_ga (.ref x) nameV
  simp only [checkBuiltinCall, hk, hsplit]
  refine wpAny_bind ?_
  · unfold isInstance
    repeat (first | (with_reducible refine wpAny_loadPart_at hx ?_; rw [hc]) | (with_reducible refine wpAny_isSubtype_exc hC ?_; rw [hcB]) | wp_step)
    exact hq

theorem findE {tk : Tok} {Q : Fin → Shared → Prop} {o : Obj} {dx : Addr}
    (hC : h.get? C = some (excClassObj nm q C N bs bmE true sn sub ab col dd k0 k1 k2 k3 k5 newId)) (hn : h.Ns N mN) (hna : mN name = none)
    (hB : typeLookup (.type "Exception") name = pure none) (hx : h.get? x = some o) (hc : o.cls = .ref C) (hnc : ∀ c, o.data ≠ .cls c) (hdx : o.dict = some dx) (hns : h.Ns dx mA) (hv : mA name = some v) (hq : Q (.done (.ret v)) ⟨h, g, d, t, os⟩) :
    wpAny (model prog w) A (Builtin.«object.__getattribute__» ⟨[.ref x, .str name tk], []⟩) Q E ⟨h, g, d, t, os⟩ := by
  unfold Builtin.«object.__getattribute__»
  repeat (first | (with_reducible refine wpAny_loadPart_at hx ?_; rw [hc]) | (with_reducible refine wpAny_typeLookup_exc hC hn mro_exc hB ?_; rw [hna]) | wp_step)
  split
  · rename_i c hcd
    exact absurd hcd (hnc c)
  unfold instanceDict
  repeat (first | (with_reducible refine wpAny_loadPart_at hx ?_; rw [hc]) | with_reducible refine wpAny_loadPart_at hC ?_ | wp_step)
  rw [hdx]
  repeat (first | (with_reducible refine wpAny_nsGet hns ?_; rw [hv]) | wp_step)
  exact hq

theorem loadE {expr : Bool} {Q : Value → Shared → Prop} {o : Obj} {dx : Addr}
    (hC : h.get? C = some (excClassObj nm q C N bs bmE true sn sub ab col dd k0 k1 k2 k3 k5 newId)) (hn : h.Ns N mN) (hng : mN "__getattribute__" = none) (hnh : mN "__getattr__" = none) (hna : mN name = none)
    (hB : typeLookup (.type "Exception") name = pure none) (hx : h.get? x = some o) (hc : o.cls = .ref C) (hnc : ∀ c, o.data ≠ .cls c) (hdx : o.dict = some dx) (hns : h.Ns dx mA) (hv : mA name = some v) (hh : handedOut v = pure v) (hq : Q v ⟨h, g, d, t + 1, os⟩) :
    wpAny (model prog w) A (getAttr (.ref x) name expr) Q E ⟨h, g, d, t, os⟩ := by
  have f3 := PySem.F.attr_Exception.ga.bind (.ref x)
  have hx0 : (expr && onTheHeap (Value.builtin "BaseException.__getattribute__")) = false := by cases expr <;> rfl
  have hx2 : (Value.builtin "BaseException.__getattribute__" == Value.builtin "object.__getattribute__") = false := by decide +kernel
  have hx1 : (onTheHeap (Value.ref C) && Value.builtin "BaseException.__getattribute__" == Value.builtin "object.__getattribute__") = false := by rw [hx2]; rfl
  unfold getAttr getAttrBy
  repeat (any_goals (first | assumption | (with_reducible refine wpAny_loadPart_at hx ?_; rw [hc]) | (with_reducible refine wpAny_typeLookup_exc hC hn mro_exc lk_exc_ga ?_; rw [hng]) | (with_reducible refine wpAny_typeLookup_exc hC hn mro_exc lk_exc_getattr ?_; rw [hnh]) | wp_step))
  refine codeAny_call_builtin PySem.F.attr_Exception.ga.plain PySem.F.entry_bexc_ga (checkE hC hx hc (findE hC hn hna hB hx hc hnc hdx hns hv ?_))
  repeat (any_goals (first | assumption | wp_step))

/-- the first store makes the dict -/
theorem storeE {tk : Tok} {Q : Fin → Shared → Prop} {o : Obj}
    (hC : h.get? C = some (excClassObj nm q C N bs bmE true sn sub ab col dd k0 k1 k2 k3 k5 newId)) (hn : h.Ns N mN) (hna : mN name = none)
    (hB : typeLookup (.type "Exception") name = pure none) (hx : h.get? x = some o) (hc : o.cls = .ref C) (hnc : ∀ c, o.data ≠ .cls c) (hdn : o.dict = none)
    (hq : ∀ h' tk', h'.get? x = some { o with dict := some h.objs.size } → h'.Ns1 h.objs.size (fun y => if y = name then some v else none) → (∀ b ob, b ≠ x → h.get? b = some ob → h'.get? b = some ob) →
      Q (.done (.ret .none)) ⟨h', g, d, tk', os⟩) :
    wpAny (model prog w) A (Builtin.«object.__setattr__» ⟨[.ref x, .str name tk, v], []⟩) Q E ⟨h, g, d, t, os⟩ := by
  have hpass := PySem.F.store_Exception.passes (.ref x)
  unfold Builtin.«object.__setattr__»
  repeat (first | rw [refuse_eq] | (rw [refuseLoop_ref, hpass]) | (with_reducible refine wpAny_loadPart_at hx ?_; rw [hc]) | with_reducible refine wpAny_mroOf_exc hC ?_ | (with_reducible refine wpAny_typeLookup_exc hC hn mro_exc hB ?_; rw [hna]) | wp_step)
  rw [hdn, if_neg (by simp [typeHasDict])]
  split
  · rename_i hcd
    cases hcd
  split
  · rename_i c hcd
    exact absurd hcd (hnc c)
  have hx₁ : (h.push { cls := .type "dict", data := .dict #[] }).get? x = some o := Heap.get?_push_of_some _ hx
  have hxs : x ≠ h.objs.size := Nat.ne_of_lt (Heap.lt_size hx)
  refine wpAny_bind (wpAny_alloc' ?_)
  refine wpAny_bind (wpAny_update' hx₁ ?_)
  refine wpAny_pure ?_
  generalize hH : ((h.push { cls := .type "dict", data := .dict #[] }).update x fun o => { cls := o.cls, dict := some h.objs.size, data := o.data, slots := o.slots }) = H
  have hgd : H.get? h.objs.size = some { cls := .type "dict", data := .dict #[] } := by
    rw [← hH]; exact (Heap.get?_update_ne _ _ _ _ hxs.symm).trans (Heap.get?_push_at rfl rfl)
  have hnd : H.Ns h.objs.size (fun _ => none) := ⟨_, #[], _, hgd, rfl, fun e he => absurd he (by simp), fun _ => rfl⟩
  show wpAny _ _ (storeInDict h.objs.size (.str name tk) name v) _ _ _
  unfold storeInDict newKeyGuard
  refine wpAny_bind (wpAny_pure (wpAny_bind (wpAny_nsSet1 (Heap.Ns1.of_empty hnd) fun h' hn' hs => ?_)))
  obtain ⟨oD, esD, epD, hoD, hdD, hcD⟩ := hn'.count (Within.cons name v Within.nil)
  refine wpAny_bind (wpAny_lookBehind hoD (by rw [hdD]; exact pastItsLine_dict (Nat.le_trans hcD (by rw [List.length_cons, List.length_nil, sizeLine_eq]; omega))) ?_)
  wp_walk
  refine hq h' _ ?_ hn' fun b ob hbx hb => ?_
  · refine (hs.2 x hxs).trans ?_
    show H.get? x = _
    rw [← hH]
    refine Heap.get?_update_self _ hx₁ ?_
    have hfr := (Heap.get?_some_iff.mp hx).2
    obtain ⟨oc, od, odt, osl⟩ := o
    cases odt <;> first | rfl | exact hfr
  · refine (hs.2 b (Nat.ne_of_lt (Heap.lt_size hb))).trans ?_
    show H.get? b = _
    rw [← hH]
    exact (Heap.get?_update_ne _ _ _ _ hbx).trans (Heap.get?_push_of_some _ hb)
end
end Mine

set_option maxRecDepth 100000
namespace Mine
open Builtin Builtin.ObjectAttr

noncomputable def initStmt : Stmt := match stAt 1 with | .ClassDef _ _ _ b _ _ _ _ _ _ _ => b.getD 0 (.Pass ⟨0, 0, 0, 0⟩) | _ => .Pass ⟨0, 0, 0, 0⟩
noncomputable def initBody : List Stmt := match initStmt with | .FunctionDef _ _ b _ _ _ _ _ _ _ => b | _ => []
noncomputable def initScope : Scope := match initStmt with | .FunctionDef _ _ _ _ _ _ s _ _ _ => s | _ => { kind := .module, names := [], isGenerator := false, isCoroutine := false, more := [] }

structure CasOk (g : Gl) (C N fI : Addr) (fd : FuncData) : Prop where
  cls : ∃ nm q bs sn sub ab col dd k0 k1 k2 k3 k5, g.B.get? C = some (excClassObj nm q C N bs bmE true sn sub ab col dd k0 k1 k2 k3 k5 "Exception.__new__")
  ns : ∃ mN, g.B.Ns N mN ∧ mN "__init__" = some (.ref fI) ∧ mN "__setattr__" = none ∧ mN "__getattribute__" = none ∧ mN "__getattr__" = none ∧ mN "kind" = none ∧ mN "text" = none
  fn : ∃ o, g.B.get? fI = some o ∧ o.data = .func fd ∧ o.cls = .type "function"
  F : FnAt g fI fd initBody ["self", "kind", "text"]
  sc : fd.scope.names = initScope.names
  exc : g.mg "Exception" = none ∧ g.mb "Exception" = some (.type "Exception")
  glob : g.mg "CasFail" = some (.ref C)

theorem lk_kind : typeLookup (.type "Exception") "kind" = pure none := by rw [typeLookup_type, builtinLookup_eq_fast]; kernel_rfl
theorem lk_text : typeLookup (.type "Exception") "text" = pure none := by rw [typeLookup_type, builtinLookup_eq_fast]; kernel_rfl

section
variable {prog : Program} {w : World} {A : Around} {E : Value → Shared → Prop} {h : Heap} {g : Array GenState} {d : Drawn} {t : Nat} {os : OsState}
variable {nm q : Str} {C N x : Addr} {bs : List Value} {sn : List Str} {sub : List Value} {ab : Bool} {col : Option Bool} {dd : Option Addr} {k0 k1 k2 k3 k5 : Option Value} {newId : String}
  {mN mA : Str → Option Value} {name : Str} {v : Value}
theorem storeCall {tk : Tok} {R : Result → Shared → Prop} {o : Obj} {sa owner : String} (SF : StoreFacts "Exception" bmE sa owner)
    (hC : h.get? C = some (excClassObj nm q C N bs bmE true sn sub ab col dd k0 k1 k2 k3 k5 newId)) (hn : h.Ns N mN) (hna : mN name = none)
    (hB : typeLookup (.type "Exception") name = pure none) (hx : h.get? x = some o) (hc : o.cls = .ref C) (hnc : ∀ c, o.data ≠ .cls c) (hdn : o.dict = none)
    (hq : ∀ h' tk', h'.get? x = some { o with dict := some h.objs.size } → h'.Ns1 h.objs.size (fun y => if y = name then some v else none) → (∀ b ob, b ≠ x → h.get? b = some ob → h'.get? b = some ob) →
      R (.ok (.ret .none)) ⟨h', g, d, tk', os⟩) : codeAny (model prog w) A (.call (.builtin sa) ⟨[.ref x, .str name tk, v], []⟩) R ⟨h, g, d, t, os⟩ :=
  codeAny_call_builtin SF.slot.plain SF.entry (wpAny_check_sa SF hC hx hc (storeE hC hn hna hB hx hc hnc hdn hq))

theorem setE1 {sa owner : String} (SF : StoreFacts "Exception" bmE sa owner) {Q : Unit → Shared → Prop} {o : Obj}
    (hC : h.get? C = some (excClassObj nm q C N bs bmE true sn sub ab col dd k0 k1 k2 k3 k5 newId)) (hn : h.Ns N mN) (hns : mN "__setattr__" = none) (hna : mN name = none)
    (hB : typeLookup (.type "Exception") name = pure none) (hx : h.get? x = some o) (hc : o.cls = .ref C) (hnc : ∀ c, o.data ≠ .cls c) (hdn : o.dict = none)
    (hq : ∀ h' tk', h'.get? x = some { o with dict := some h.objs.size } → h'.Ns1 h.objs.size (fun y => if y = name then some v else none) → (∀ b ob, b ≠ x → h.get? b = some ob → h'.get? b = some ob) →
      Q () ⟨h', g, d, tk', os⟩) : wpAny (model prog w) A (setAttr (.ref x) name v) Q E ⟨h, g, d, t, os⟩ := by
  have f3 := SF.slot.bind (.ref x)
  unfold setAttr callSpecial? specialOf
  repeat (any_goals (first | assumption | (with_reducible refine wpAny_loadPart_at hx ?_; rw [hc]) | (with_reducible refine wpAny_typeLookup_exc hC hn SF.mro SF.slot.lookup ?_; rw [hns]) | wp_step))
  refine storeCall SF hC hn hna hB hx hc hnc hdn fun h' tk' h1 h2 h3 => ?_
  repeat (any_goals (first | assumption | wp_step))
  exact hq h' tk' h1 h2 h3

theorem call_init0 {arg : Value} {t0 : Addr} {R : Result → Shared → Prop}
    (hC : h.get? C = some (excClassObj nm q C N bs bmE true sn sub ab col dd k0 k1 k2 k3 k5 "Exception.__new__")) (hx : h.get? x = some { cls := .ref C, data := .fields #[.ref t0, .none, .none, .none, .bool false, .none] })
    (hq : ∀ h' t1, h'.get? x = some { cls := .ref C, data := .fields #[.ref t1, .none, .none, .none, .bool false, .none] } → (∀ b ob, b ≠ x → h.get? b = some ob → h'.get? b = some ob) → R (.ok (.ret .none)) ⟨h', g, d, t, os⟩) :
    codeAny (model prog w) A (.call (.builtin "Exception.__init__") ⟨[.ref x, arg], []⟩) R ⟨h, g, d, t, os⟩ := by
  have F := PySem.F.excBase_Exception
  refine codeAny_call_builtin F.init.plain F.initEntry (wpAny_check_init_sub F hC hx rfl ?_)
  have hx1 := Heap.get?_push_of_some { cls := .type "tuple", data := .seq [arg].toArray } hx
  wp_walk
  refine hq _ h.objs.size ?_ fun b ob hb e => ?_
  · rw [Heap.get?_update_self _ hx1 rfl]; rfl
  · rw [Heap.get?_update_other _ _ hb.symm]
    exact Heap.get?_push_of_some _ e
end

theorem callB2 {prog : Program} {w : World} {A : Around} {E : Value → Shared → Prop} {s : Shared} {env : Env} {id : String} {a b : Expr} {pos : Pos} {Q : Value → Shared → Prop} (ha : noStar a = true) (hb : noStar b = true)
    (h : wpAny (model prog w) A (eval a env) (fun v s₁ => wpAny (model prog w) A (eval b env) (fun u s₂ => wpAny (model prog w) A (call (.builtin id) [v, u]) Q E s₂) E s₁) E s) :
    wpAny (model prog w) A (callWith pos (.builtin id) [] (backTo pos (starEach [a, b] env)) []) Q E s := by
  have e1 : starEach [a, b] env = (false, eval a env) :: starEach [b] env := starEach_c ha
  have e2 : starEach [b] env = (false, eval b env) :: starEach [] env := starEach_c hb
  have key : wpAny (model prog w) A (spliced (backTo pos (starEach [a, b] env))) (fun vs s' => wpAny (model prog w) A (call (.builtin id) vs) Q E s') E s :=
    wpAny_items_cons (wpAny_mono h (fun v s' h' => wpAny_items_cons (wpAny_mono h' (fun u s'' h'' => wpAny_items_nil h'') fun _ _ e => e) e2) fun _ _ e => e) e1
  refine PySem.Calls.callWith_builtin (by rw [e1, e2]; rfl) ?_
  rw [e1] at key ⊢
  exact PySem.Calls.evalArgs_plain key

theorem len_add {k t : Str} (hk : k.length ≤ 100) (ht : t.length ≤ 100) : (k ++ (": " : Str)).length + t.length ≤ sizeLine := by
  have h1 : (": " : Str).length = 2 := by decide
  have h2 : (k ++ (": " : Str)).length = k.length + 2 := by rw [Str.length_append, h1]
  rw [h2]
  exact Nat.le_trans (show k.length + 2 + t.length ≤ 300 by omega) (by decide)
structure InitEnv (env : Env) : Prop where
  kind : env.scope.kind = .function
  names : env.scope.names = initScope.names
  globals : env.globals = mainGlobals
  builtins : env.builtins = builtinsNs

set_option maxHeartbeats 2000000 in
theorem init_body {g : Gl} (G : g.Ok) {C N fI : Addr} {fd : FuncData} (CA : CasOk g C N fI fd) {A : Around} {env : Env} (IE : InitEnv env) {s : Shared} {m : Str → Option Value} (hn : s.heap.Ns env.locals m) (hb : Base g s)
    {e t0 : Addr} {k t : Str} {u1 u2 : Tok} (m1 : m "self" = some (.ref e)) (m2 : m "kind" = some (.str k u1)) (m3 : m "text" = some (.str t u2)) (hk : k.length ≤ 100) (ht : t.length ≤ 100)
    (he : s.heap.get? e = some { cls := .ref C, data := .fields #[.ref t0, .none, .none, .none, .bool false, .none] }) (eB : g.B.get? e = none) {Q : Flow → Shared → Prop}
    (hQ : ∀ h' tk dx t1, h'.get? e = some { cls := .ref C, dict := some dx, data := .fields #[.ref t1, .none, .none, .none, .bool false, .none] } →
      h'.Ns dx (fun y => if y = "text" then some (.str t u2) else if y = "kind" then some (.str k u1) else none) → s.heap.get? dx = none → (∀ b o, b ≠ e → s.heap.get? b = some o → h'.get? b = some o) →
      Q .next { s with heap := h', toks := tk }) : wpAny (model g.prog g.w) A (execs initBody env) Q noE s := by
  have ek : ∀ x, env.kindOf x = initScope.names.lookup x := fun x => by unfold Env.kindOf; rw [IE.names]
  have hi : interactive env = false := by unfold interactive; rw [IE.kind]; rfl
  have hne : e ≠ env.locals := by
    rintro rfl
    obtain ⟨o, es, ep, e1, e2, _⟩ := hn
    rw [he] at e1; cases e1; cases e2
  obtain ⟨nm, q, bs, sn, sub, ab, col, dd, k0, k1, k2, k3, k5, hC⟩ := CA.cls
  obtain ⟨mN, hN, -, n2, n3, n4, n5, n6⟩ := CA.ns
  have ld : ∀ {s' : Shared} {x : Str} {pos : Pos} {v : Value} {Q' : Value → Shared → Prop} {m' : Str → Option Value}, s'.heap.Ns env.locals m' → initScope.names.lookup x = some .local → (x == ("__debug__" : Str)) = false → m' x = some v → Q' v s' →
      wpAny (model g.prog g.w) A (eval (.Name x pos) env) Q' noE s' := fun hn' hl hd hv hq => wpAny_Name (wpAny_loadName_local IE.kind ((ek _).trans hl) hn' hv hq) hd
  refine wpAny_execs_cons (wpAny_Expr_any (MethodCall_ ?_ rfl) hi rfl)
  refine PySem.Calls.Name_function_global IE.kind ((ek _).trans rfl) (PySem.Calls.loadGlobal_builtin (by rw [IE.globals]; exact G.hg.keeps hb) CA.exc.1 (by rw [IE.builtins]; exact G.hb.keeps hb) CA.exc.2 ?_) (by decide)
  refine method_type (K := []) (h₀ := { objs := #[] }) (L := env.locals) (m := m) ⟨hn, fun b o q => absurd (Heap.lt_size q) (Nat.not_lt_zero _), Nat.zero_le _⟩ (fun a o q => by cases q) (by kernel_rfl) (by decide +kernel) (v := .builtin "Exception.__init__") (by kernel_rfl) rfl ?_
  refine callB2 rfl rfl (ld hn rfl (by decide) m1 ?_)
  refine wpAny_BinOp (wpAny_BinOp (ld hn rfl (by decide) m2 (wpAny_Constant_str ?_)))
  refine add_str (fun u3 tk1 => ?_) (Nat.le_trans (Nat.add_le_add_right hk 2) (by decide))
  refine ld hn rfl (by decide) m3 ?_
  refine add_str (fun u4 tk2 => ?_) (len_add hk ht)
  refine wpAny_call (call_init0 (hC := hb _ _ hC) he fun h1 t1 e1 k1 => ?_)
  have eC : C ≠ e := by rintro rfl; rw [eB] at hC; cases hC
  have hN0 := hN
  obtain ⟨oN, _, _, eN, _⟩ := hN0
  have eNe : N ≠ e := by rintro rfl; rw [eB] at eN; cases eN
  have hn1 : h1.Ns env.locals m := hn.at' fun o ho => k1 _ _ hne.symm ho
  have hC1 := k1 _ _ eC (hb _ _ hC)
  have hN1 : h1.Ns N mN := (hN.keeps hb).at' fun o ho => k1 _ _ eNe ho
  have up : ∀ b o, s.heap.get? b = some o → b < h1.objs.size := fun b o q => by
    by_cases z : b = e
    · subst z; exact Heap.lt_size e1
    · exact Heap.lt_size (k1 b o z q)
  refine wpAny_execs_cons (plainObj_wpAny_Assign_Attribute (ld hn1 rfl (by decide) m2 (ld hn1 rfl (by decide) m1 ?_)))
  refine setE1 PySem.F.store_Exception hC1 hN1 n2 n5 lk_kind e1 rfl (fun c z => by cases z) rfl fun h2 tk3 e2 ns2 k2 => ?_
  have hn2 : h2.Ns env.locals m := hn1.at' fun o ho => k2 _ _ hne.symm ho
  refine wpAny_execs_cons (plainObj_wpAny_Assign_Attribute (ld hn2 rfl (by decide) m3 (ld hn2 rfl (by decide) m1 ?_)))
  have dxe : h1.objs.size ≠ e := Nat.ne_of_gt (Heap.lt_size e1)
  refine store_attr PySem.F.store_Exception (k2 _ _ eC hC1) (hN1.at' fun o ho => k2 _ _ eNe ho) n2 n6 lk_text eC.symm ⟨_, e2, rfl, (fun c z => by cases z), .inr ⟨_, rfl, dxe, ns2⟩⟩ fun h3 tk4 I3 k3 s3 => ?_
  obtain ⟨o1, e3, c3, d3, l3, x3⟩ := s3 _ e2
  obtain ⟨oc, od, oda, osl⟩ := o1
  dsimp only at c3 d3 l3 x3
  have x3 := x3 _ rfl
  subst c3 d3 l3 x3
  obtain ⟨o, e4, -, -, hd4⟩ := I3
  rw [e3] at e4; cases e4
  rcases hd4 with ⟨z, _⟩ | ⟨dx, q, -, hns⟩
  · cases z
  cases q
  refine wpAny_execs_nil (hQ h3 tk4 h1.objs.size t1 e3 hns.ns ?_ fun b o z q => ?_)
  · cases z : s.heap.get? h1.objs.size with
    | none => rfl
    | some o => exact absurd (up _ _ z) (Nat.lt_irrefl _)
  · refine k3 b o z (fun o₀ dx q1 q2 => ?_) (k2 b o z (k1 b o z q))
    rw [e2] at q1; cases q1
    cases q2
    exact Nat.ne_of_lt (up b o q)

end Mine

set_option maxRecDepth 100000
namespace Mine
open Builtin Builtin.ObjectAttr

theorem keeper_cls {M : Model} {h : Heap} {nm q : Str} {C N : Addr} {bs bm : List Value} {hdct : Bool} {sn : List Str} {sub : List Value} {ab : Bool} {col : Option Bool} {dd : Option Addr} {k0 k1 k2 k3 k5 : Option Value} {newId : String}
    (hC : h.get? C = some (excClassObj nm q C N bs bm hdct sn sub ab col dd k0 k1 k2 k3 k5 newId)) : Looks M h (keeperOf (.ref C)) .machine := by
  intro A Q E s k hq
  obtain ⟨hp, g, d, t, os⟩ := s
  exact wpAny_keeperOf_exc (k _ _ hC) hq

theorem make_cas {g : Gl} (G : g.Ok) {C N fI : Addr} {fd : FuncData} (CA : CasOk g C N fI fd) {A : Around} (hd : A.depth < 900) {s : Shared} (hb : Base g s) {E : Value → Shared → Prop}
    {k t : Str} {u1 u2 : Tok} (hk : k.length ≤ 100) (ht : t.length ≤ 100) {Q : Value → Shared → Prop}
    (hQ : ∀ h' tk e dx t1, h'.get? e = some { cls := .ref C, dict := some dx, data := .fields #[.ref t1, .none, .none, .none, .bool false, .none] } →
      h'.Ns dx (fun y => if y = "text" then some (.str t u2) else if y = "kind" then some (.str k u1) else none) → s.heap.get? e = none → s.heap.get? dx = none → (∀ b o, s.heap.get? b = some o → h'.get? b = some o) →
      Q (.ref e) { s with heap := h', toks := tk }) : wpAny (model g.prog g.w) A (call (.ref C) [.str k u1, .str t u2]) Q E s := by
  obtain ⟨nm, q, bs, sn, sub, ab, col, dd, k0, k1, k2, k3, k5, hC⟩ := CA.cls
  obtain ⟨mN, hN, n1, n2, n3, n4, n5, n6⟩ := CA.ns
  obtain ⟨oI, i1, i2, i3⟩ := CA.fn
  obtain ⟨hp, gs, dr, tk, os⟩ := s
  refine wpAny_call_exc_init PySem.F.excBase_Exception (hb _ _ hC) (hN.keeps hb) n1 (hb _ _ i1) i3 (fun h1 e hm => ?_) (show (2 : Nat) ≤ sizeLine by decide)
  obtain ⟨t1, e1, t2, e2⟩ := hm.there
  have hb1 : ∀ b o, g.B.get? b = some o → h1.get? b = some o := fun b o z => hm.keeps b o (hb b o z)
  have F := CA.F
  have eB : g.B.get? e = none := by
    cases z : g.B.get? e with
    | none => rfl
    | some o => have := hb _ _ z; have := hm.new; simp_all
  refine wpAny_call (codeAny_call_cells ?_ (hb1 _ _ i1) i2 (G.lim.keeps hb1) (F.code.keeps hb1) F.body (F.bind [.ref e, .str k u1, .str t u2] rfl) F.clo ?_ (fun s₁ x => ?_) F.co F.gen F.kind)
  · show A.depth + 1 < 1000
    omega
  · intro x hx
    have hx' : x.1 ∈ (["self", "kind", "text"] : List Str) := by
      have := List.mem_map_of_mem (f := (·.1)) hx
      simpa using this
    exact (F.kinds x.1 hx').imp id fun e => ⟨e, F.cells _ _ e⟩
  · generalize hE : callEnvC fd h1.objs.size fI = env at x ⊢
    have e1' : env.scope = fd.scope := by subst hE; rfl
    have e2' : env.globals = mainGlobals := by subst hE; exact F.globals
    have e3' : env.builtins = builtinsNs := by subst hE; exact F.builtins
    have e4' : env.locals = h1.objs.size := by subst hE; rfl
    have IE : InitEnv env := ⟨by rw [e1']; exact F.kind, by rw [e1']; exact CA.sc, e2', e3'⟩
    have ek : ∀ y, env.kindOf y = initScope.names.lookup y := fun y => by unfold Env.kindOf; rw [e1', CA.sc]
    obtain ⟨h2, tk2, hs2, hk2⟩ := x.done
    subst hs2
    have he2 := hk2 _ _ e1
    refine wpAny_mono (init_body G CA IE x.toInCall.ns (fun b o z => hk2 b o (hb1 b o z)) (u1 := u1) (u2 := u2) (k := k) (t := t) ?_ ?_ ?_ hk ht he2 eB (Q := fun f s' => f = .next ∧ Q (.ref e) s') fun h3 tk3 dx t3 q1 q2 q3 q4 => ⟨rfl, ?_⟩) (fun f s' hf => ?_) fun _ _ z => z.elim
    · exact bindL_at (show (["self", "kind", "text"] : List Str).Nodup by decide) rfl ((ek _).trans rfl)
    · exact bindL_at (show (["self", "kind", "text"] : List Str).Nodup by decide) rfl ((ek _).trans rfl)
    · exact bindL_at (show (["self", "kind", "text"] : List Str).Nodup by decide) rfl ((ek _).trans rfl)
    · refine hQ h3 tk3 e dx t3 q1 q2 hm.new ?_ fun b o z => ?_
      · cases z : hp.get? dx with
        | none => rfl
        | some o => have := hk2 _ _ (hm.keeps _ _ z); rw [q3] at this; cases this
      · exact q4 b o (fun y => by subst y; have := hm.new; rw [z] at this; cases this) (hk2 _ _ (hm.keeps _ _ z))
    · obtain ⟨rfl, hf⟩ := hf
      exact ⟨rfl, hf⟩

theorem args2 {M : Model} {A : Around} {E : Value → Shared → Prop} {s : Shared} {env : Env} {f : Value} {a b : Expr} {pos : Pos} {Q : Args → Shared → Prop} (ha : noStar a = true) (hb : noStar b = true)
    (h : wpAny M A (eval a env) (fun v s₁ => wpAny M A (eval b env) (fun u s₂ => Q ⟨[v, u], []⟩ s₂) E s₁) E s) :
    wpAny M A (evalArgs f true (backTo pos (starEach [a, b] env)) []) Q E s := by
  have e1 : starEach [a, b] env = (false, eval a env) :: starEach [b] env := starEach_c ha
  have e2 : starEach [b] env = (false, eval b env) :: starEach [] env := starEach_c hb
  have key : wpAny M A (spliced (backTo pos (starEach [a, b] env))) (fun vs s' => Q ⟨vs, []⟩ s') E s :=
    wpAny_items_cons (wpAny_mono h (fun v s' h' => wpAny_items_cons (wpAny_mono h' (fun u s'' h'' => wpAny_items_nil h'') fun _ _ e => e) e2) fun _ _ e => e) e1
  rw [e1] at key ⊢
  exact PySem.Calls.evalArgs_plain key

/-- `raise CasFail('..', '..')` -/
theorem raise_cas {g : Gl} (G : g.Ok) {C N fI : Addr} {fd : FuncData} (CA : CasOk g C N fI fd) {A : Around} (hh : A.handled = none) (hd : A.depth < 900) {env : Env} (hk : env.scope.kind = .function) (hl : env.kindOf "CasFail" = some .globalImplicit) (hgl : env.globals = mainGlobals)
    {s : Shared} (hb : Base g s) {E : Value → Shared → Prop} {k t : Str} {a1 a2 : Nat} {p1 p2 p3 p4 pos : Pos} (lk : k.length ≤ 100) (lt : t.length ≤ 100) {Q : Flow → Shared → Prop}
    (hE : ∀ h' tk e dx t1 u1 u2, h'.get? e = some { cls := .ref C, dict := some dx, data := .fields #[.ref t1, .none, .none, .none, .bool false, .none] } →
      h'.Ns dx (fun y => if y = "text" then some (.str t u2) else if y = "kind" then some (.str k u1) else none) → s.heap.get? e = none → s.heap.get? dx = none → (∀ b o, s.heap.get? b = some o → h'.get? b = some o) →
      E (.ref e) { s with heap := h', toks := tk }) :
    wpAny (model g.prog g.w) A (exec (.Raise (some (.Call (.Name "CasFail" p1) [.Constant (.str k) a1 p2, .Constant (.str t) a2 p3] [] p4)) none pos) env) Q E s := by
  obtain ⟨nm, q, bs, sn, sub, ab, col, dd, k0, k1, k2, k3, k5, hC⟩ := CA.cls
  rw [arm_exec_Raise]
  refine wpAny_bind (wpAny_standAt (raiseD (bm := bmE) (by decide) hh (wpAny_bind (wpAny_mono (Q := fun v s₁ => ∃ e dx vs sl, v = .ref e ∧ s₁.heap.get? C = some (excClassObj nm q C N bs bmE true sn sub ab col dd k0 k1 k2 k3 k5 "Exception.__new__") ∧
      s₁.heap.get? e = some { cls := .ref C, dict := some dx, data := .fields vs, slots := sl } ∧ vs[1]? = some .none ∧ E (.ref e) s₁) ?_ (fun v s₁ hv => wpAny_bind (wpAny_standAt (wpAny_pure hv))) fun _ _ z => z))))
  refine Call_ (PySem.Calls.Name_function_global hk hl (PySem.Calls.loadGlobal_global (by rw [hgl]; exact G.hg.keeps hb) CA.glob ?_) (by decide))
  refine callWith_of (P := fun h => ∀ a o, g.B.get? a = some o → h.get? a = some o) rfl (fun h hb => ⟨.machine, .inr (.inl rfl), keeper_cls (hb _ _ hC)⟩) ?_
  refine args2 rfl rfl (wpAny_Constant_str (wpAny_Constant_str ?_))
  refine ⟨hb, ?_⟩
  refine make_cas (s := { s with toks := s.toks + 1 + 1 }) (u1 := s.toks) (u2 := s.toks + 1) G CA hd hb lk lt fun h' tk e dx t1 q1 q2 q3 q4 q5 => ?_
  exact ⟨e, dx, _, _, rfl, q5 _ _ (hb _ _ hC), q1, rfl, hE h' tk e dx t1 _ _ q1 q2 q3 q4 q5⟩
end Mine

set_option maxRecDepth 100000
namespace Mine
open Builtin Builtin.ObjectAttr

noncomputable def kindMap (u1 u2 : Tok) : Str → Option Value := fun y => if y = "text" then some (.str "a polynomial is divided by 0" u2) else if y = "kind" then some (.str "division by zero" u1) else none

theorem ns_fun {h base : Heap} {l : List Env} {env : Env} {L : Addr} {m : Str → Option Value} (hk : env.scope.kind = .function) (hf : env.frame = some L) (hb : base.get? L = none) (hn : h.Ns L m) (hl : h.FunFrames base l) : h.FunFrames base (env :: l) := by
  obtain ⟨o, es, ep, e1, e2, _⟩ := hn
  exact ⟨by rw [hk]; decide, ⟨L, o, hf, hb, e1, fun vs q => by rw [e2] at q; cases q⟩, hl⟩

theorem callB1 {prog : Program} {w : World} {A : Around} {E : Value → Shared → Prop} {s : Shared} {env : Env} {id : String} {a : Expr} {pos : Pos} {Q : Value → Shared → Prop} (ha : noStar a = true)
    (h : wpAny (model prog w) A (eval a env) (fun v s₁ => wpAny (model prog w) A (call (.builtin id) [v]) Q E s₁) E s) :
    wpAny (model prog w) A (callWith pos (.builtin id) [] (backTo pos (starEach [a] env)) []) Q E s := by
  have e1 : starEach [a] env = (false, eval a env) :: starEach [] env := starEach_c ha
  have key : wpAny (model prog w) A (spliced (backTo pos (starEach [a] env))) (fun vs s' => wpAny (model prog w) A (call (.builtin id) vs) Q E s') E s :=
    wpAny_items_cons (wpAny_mono h (fun v s' h' => wpAny_items_nil h') fun _ _ e => e) e1
  refine PySem.Calls.callWith_builtin (by rw [e1]; rfl) ?_
  rw [e1] at key ⊢
  exact PySem.Calls.evalArgs_plain key

set_option maxHeartbeats 2000000 in
theorem qdiv_raise {g : Gl} (G : g.Ok) {C N fI : Addr} {fdI : FuncData} (CA : CasOk g C N fI fdI) {aq : Addr} {fq : FuncData} (Fq : FnAt g aq fq (bodyAt 30) ["a", "b"]) (hsc : fq.scope.names = (scopeAt 30).names) (hlen : g.mg "len" = none ∧ g.mb "len" = some (.builtin "len"))
    {A : Around} (hh : A.handled = none) (hd : A.depth < 800) {l : List Env} (hfr : A.frames = some l) {s : Shared} (hb : Base g s) {base : Heap} (hst : base.StaysIn s.heap) (hfun : s.heap.FunFrames base l) {va : Value} {ab : Addr} (hv : LstAt s.heap ab [])
    {E : Value → Shared → Prop} {Q : Value → Shared → Prop}
    (hE : ∀ h' tk e dx u1 u2, Fly base l e (.ref C) dx .none h' → h'.Ns dx (kindMap u1 u2) → s.heap.UpToSlots h' → E (.ref e) { s with heap := h', toks := tk }) :
    wpAny (model g.prog g.w) A (call (.ref aq) [va, .ref ab]) Q E s := by
  obtain ⟨o, ho, hdt⟩ := Fq.ob
  refine wpAny_call (codeAny_call_cells (show A.depth < 1000 by omega) (hb _ _ ho) hdt (G.lim.keeps hb) (Fq.code.keeps hb) Fq.body (Fq.bind [va, .ref ab] rfl) Fq.clo ?_ (fun s₁ x => ?_) Fq.co Fq.gen Fq.kind)
  · intro x hx
    have hx' : x.1 ∈ (["a", "b"] : List Str) := by
      have := List.mem_map_of_mem (f := (·.1)) hx
      simpa using this
    exact (Fq.kinds x.1 hx').imp id fun e => ⟨e, Fq.cells _ _ e⟩
  · generalize hE' : callEnvC fq s.heap.objs.size aq = env at x ⊢
    have e1 : env.scope = fq.scope := by subst hE'; rfl
    have e2 : env.globals = mainGlobals := by subst hE'; exact Fq.globals
    have e3 : env.builtins = builtinsNs := by subst hE'; exact Fq.builtins
    have e4 : env.locals = s.heap.objs.size := by subst hE'; rfl
    have e5 : env.frame = some env.locals := by subst hE'; rfl
    have ek : ∀ y, env.kindOf y = (scopeAt 30).names.lookup y := fun y => by unfold Env.kindOf; rw [e1, hsc]
    have hk : env.scope.kind = .function := by rw [e1]; exact Fq.kind
    obtain ⟨h1, tk1, hs1, hk1⟩ := x.done
    subst hs1
    have hn : h1.Ns env.locals _ := x.toInCall.ns
    have hb1 : ∀ b o, g.B.get? b = some o → h1.get? b = some o := fun b o z => hk1 b o (hb b o z)
    have mb : bindL env.kindOf ((["a", "b"] : List Str).zip [va, .ref ab]) (fun _ => none) "b" = some (.ref ab) := bindL_at (show (["a", "b"] : List Str).Nodup by decide) rfl ((ek _).trans rfl)
    refine wpAny_execs_cons (wpAny_If (wpAny_isTrue_Compare1 ?_ rfl))
    refine Call_ (PySem.Calls.Name_function_global hk ((ek _).trans rfl) (PySem.Calls.loadGlobal_builtin (by rw [e2]; exact G.hg.keeps hb1) hlen.1 (by rw [e3]; exact G.hb.keeps hb1) hlen.2 ?_) (by decide))
    refine callB1 rfl (wpAny_Name (wpAny_loadName_local hk ((ek _).trans rfl) hn mb ?_) (by decide))
    obtain ⟨nv, hv'⟩ := hv
    have hv1 : LstAt h1 ab [] := ⟨nv, hk1 _ _ hv'⟩
    refine PySem.Calls.call_len_list hv1.isList (by decide) (wpAny_Constant_int (eq_int (wpAny_truthy_bool ?_)))
    rw [if_pos (by rfl)]
    have hst1 : base.StaysIn h1 := fun b o z => hk1 b o (hst b o z)
    have fr1 : ∀ b, s.heap.objs.size ≤ b → base.get? b = none := fun b hb' => by
      cases z : base.get? b with
      | none => rfl
      | some o => exact absurd (Heap.lt_size (hst b o z)) (Nat.not_lt.mpr hb')
    have hfun1 : h1.FunFrames base (env :: l) := ns_fun hk e5 (by rw [e4]; exact fr1 _ (Nat.le_refl _)) hn (hfun.of_keeps fun b o z _ => ⟨o, hk1 b o z, rfl⟩)
    refine wpAny_execs_cons (raise_cas G CA (A := A.deeper env) hh (by show A.depth + 1 < 900; omega) hk ((ek _).trans rfl) e2 (by exact hb1) (by decide) (by decide) fun h2 tk2 e dx t1 u1 u2 q1 q2 q3 q4 q5 => ?_)
    have none_of : ∀ b, h1.get? b = none → base.get? b = none := fun b hb' => by
      cases z : base.get? b with
      | none => rfl
      | some o => rw [hst1 b o z] at hb'; cases hb'
    refine leaveD (Around.frames_deeper hfr) (hfun1.of_keeps fun b o z _ => ⟨o, q5 b o z, rfl⟩) e5 q1 (fun b o z => q5 b o (hst1 b o z)) (none_of _ q3) rfl fun h3 x3 u3 => ?_
    exact hE h3 tk2 e dx u1 u2 x3 (u3.ns q2) ((Heap.UpToSlots.of_keeps fun b o z => q5 b o (hk1 b o z)).trans u3)
end Mine

set_option maxRecDepth 100000
namespace Mine
open Builtin Builtin.ObjectAttr

set_option maxHeartbeats 4000000 in
theorem divw_nil {g : Gl} (G : g.Ok) {C N fI : Addr} {fdI : FuncData} (CA : CasOk g C N fI fdI) {ad aq : Addr} {fd fq : FuncData} (F : FnAt g ad fd (bodyAt 52) ["a", "b"]) (hsc : fd.scope.names = (scopeAt 52).names)
    (Fq : FnAt g aq fq (bodyAt 30) ["a", "b"]) (hscq : fq.scope.names = (scopeAt 30).names) (hq : g.mg "qdivmod" = some (.ref aq)) (hlen : g.mg "len" = none ∧ g.mb "len" = some (.builtin "len"))
    {n : Nat} {A : Around} {X : Av} {s : Shared} (room : Room (n + 2) A) (wf : Wf g X s) {l : List Env} (hfr : A.frames = some l) (hfun0 : s.heap.FunFrames g.B l) (hns : ∀ a ∈ frs A, ∃ m, s.heap.Ns a m)
    {va : Value} {ab : Addr} (hz : ab ∉ X.Z) (hv : LstAt s.heap ab []) :
    wpAny (model g.prog g.w) A (call (.ref ad) [va, .ref ab]) (fun v s' => v = .bool true ∧ WStp A X s s') noE s := by
  have hb := wf.base
  obtain ⟨o, ho, hdt⟩ := F.ob
  have hfrs : frs A = l.filterMap (·.frame) := by unfold frs; rw [hfr]
  have notL : ∀ a vs, LstAt s.heap a vs → a ∉ frs A := fun a vs h z => by
    obtain ⟨m, hm⟩ := hns a z
    exact (not_list_of_ns hm vs).1 h
  generalize hB0 : hideAll s.heap (frs A) = base
  have hof : ∀ b o, base.get? b = some o → s.heap.get? b = some o := fun b o z => by rw [← hB0] at z; exact of_hideAll _ z
  have hto : ∀ b o, s.heap.get? b = some o → b ∉ frs A → base.get? b = some o := fun b o z y => by rw [← hB0]; exact hideAll_get _ z y
  have hfun : s.heap.FunFrames base l := by rw [← hB0]; exact funFrames_hide hfun0 fun env he a ha => by rw [hfrs]; exact List.mem_filterMap.mpr ⟨env, he, ha⟩
  refine wpAny_call (codeAny_call_cells (by have := room.depth; show A.depth < 1000; omega) (hb _ _ ho) hdt (G.lim.keeps hb) (F.code.keeps hb) F.body (F.bind [va, .ref ab] rfl) F.clo ?_ (fun s₁ x => ?_) F.co F.gen F.kind)
  · intro x hx
    have hx' : x.1 ∈ (["a", "b"] : List Str) := by
      have := List.mem_map_of_mem (f := (·.1)) hx
      simpa using this
    exact (F.kinds x.1 hx').imp id fun e => ⟨e, F.cells _ _ e⟩
  · generalize hE' : callEnvC fd s.heap.objs.size ad = env at x ⊢
    have e1 : env.scope = fd.scope := by subst hE'; rfl
    have e2 : env.globals = mainGlobals := by subst hE'; exact F.globals
    have e3 : env.builtins = builtinsNs := by subst hE'; exact F.builtins
    have e4 : env.locals = s.heap.objs.size := by subst hE'; rfl
    have e5 : env.frame = some env.locals := by subst hE'; rfl
    have ek : ∀ y, env.kindOf y = (scopeAt 52).names.lookup y := fun y => by unfold Env.kindOf; rw [e1, hsc]
    have hk : env.scope.kind = .function := by rw [e1]; exact F.kind
    obtain ⟨h1, tk1, hs1, hk1⟩ := x.done
    subst hs1
    have hn : h1.Ns env.locals _ := x.toInCall.ns
    have hb1 : ∀ b o, g.B.get? b = some o → h1.get? b = some o := fun b o z => hk1 b o (hb b o z)
    have ma : bindL env.kindOf ((["a", "b"] : List Str).zip [va, .ref ab]) (fun _ => none) "a" = some va := bindL_at (show (["a", "b"] : List Str).Nodup by decide) rfl ((ek _).trans rfl)
    have mb : bindL env.kindOf ((["a", "b"] : List Str).zip [va, .ref ab]) (fun _ => none) "b" = some (.ref ab) := bindL_at (show (["a", "b"] : List Str).Nodup by decide) rfl ((ek _).trans rfl)
    have hst1 : base.StaysIn h1 := fun b o z => hk1 b o (hof b o z)
    have fr1 : ∀ b, s.heap.objs.size ≤ b → base.get? b = none := fun b hb' => by
      cases z : base.get? b with
      | none => rfl
      | some o => exact absurd (Heap.lt_size (hof b o z)) (Nat.not_lt.mpr hb')
    have hfun1 : h1.FunFrames base (env :: l) := ns_fun hk e5 (by rw [e4]; exact fr1 _ (Nat.le_refl _)) hn (hfun.of_keeps fun b o z _ => ⟨o, hk1 b o z, rfl⟩)
    obtain ⟨nv, hv'⟩ := hv
    have hvb : base.get? ab = some _ := hto _ _ hv' (notL _ _ ⟨nv, hv'⟩)
    refine wpAny_execs_cons (wpAny_Try_except (wpAny_execs_cons ?_))
    refine Assign_Tuple (Call_ (PySem.Calls.Name_function_global hk ((ek _).trans rfl) (PySem.Calls.loadGlobal_global (by rw [e2]; exact G.hg.keeps hb1) hq ?_) (by decide))) rfl rfl
    have hkq : Keeps g (.ref aq) := by obtain ⟨oq, h1, h2⟩ := Fq.ob; exact .inr (.inr ⟨_, _, _, rfl, h1, h2⟩)
    refine callWith_of (P := fun h => ∀ a o, g.B.get? a = some o → h.get? a = some o) rfl (fun h hb => hkq.look _ h hb) ?_
    refine args2 rfl rfl (wpAny_Name (wpAny_loadName_local hk ((ek _).trans rfl) hn ma (wpAny_Name (wpAny_loadName_local hk ((ek _).trans rfl) hn mb ?_) (by decide))) (by decide))
    refine ⟨hb1, ?_⟩
    have hd := room.depth
    refine qdiv_raise (l := env :: l) G CA Fq hscq hlen (A := A.deeper env) room.handled (by show A.depth + 1 < 800; omega) (Around.frames_deeper hfr) (by exact hb1) (base := base) (by exact hst1) (by exact hfun1) ⟨nv, hk1 _ _ hv'⟩ fun h2 tk2 e dx u1 u2 y2 n2 up2 => ?_
    have hgb : ∀ b o, g.B.get? b = some o → base.get? b = some o := fun b o z => hto b o (hb b o z) fun y => by
      rw [hfrs] at y
      rw [(hfun0.mem y).1] at z; cases z
    have dl : dx ≠ env.locals := by
      rintro rfl
      obtain ⟨o1, es, ep, p1, p2, p3, p4⟩ := n2
      obtain ⟨o2, es2, ep2, r1, r2, r3, r4⟩ := up2.ns hn
      have p1 : h2.get? env.locals = some o1 := p1
      have r1 : h2.get? env.locals = some o2 := r1
      rw [p1] at r1; cases r1
      rw [p2] at r2; cases r2
      have := (p4 "b").symm.trans ((r4 "b").trans mb)
      have kb : kindMap u1 u2 "b" = none := rfl
      rw [kb] at this; cases this
    refine noteD (Around.frames_deeper hfr) e5 y2 fun h3 y3 up3 => ?_
    refine flightD y3 fun h4 y4 up4 => ?_
    have hb4 : ∀ b o, g.B.get? b = some o → h4.get? b = some o := fun b o z => y4.stays b o (hgb b o z)
    refine wpAny_handleBy_cons (codeAny_handlers_test (PySem.Calls.Name_function_global hk ((ek _).trans rfl) (PySem.Calls.loadGlobal_global (by rw [e2]; exact G.hg.keeps hb4) CA.glob ?_) (by decide))) (by intro q; cases q)
    obtain ⟨nm, q, bs, sn, sub, ab', col, dd, k0, k1, k2, k3, k5, hC⟩ := CA.cls
    obtain ⟨mN, hN, i1, i2, i3, i4, i5, i6⟩ := CA.ns
    obtain ⟨vs4, sl4, T4, oT4, ts4, q4, -⟩ := id y4.obj
    refine wpAny_excMatches_sub_self (hb4 _ _ hC) q4 rfl (by decide) (codeAny_handlers_suite_as ?_)
    refine flightD y4 fun h5 y5 up5 => ?_
    have up25 : h2.UpToSlots h5 := (up3.trans up4).trans up5
    have nL5 : h5.Ns env.locals _ := up25.ns (up2.ns hn)
    refine wpAny_storeName_local ((ek _).trans rfl) nL5 (fun h6 n6 s6 => ?_) (by rw [hk]; rfl)
    obtain ⟨vs5, sl5, T5, oT5, ts5, q5, -⟩ := id y5.obj
    have eL : e ≠ env.locals := by
      rintro rfl
      obtain ⟨o1, es, ep, p1, p2, p3, p4⟩ := nL5
      have p1 : h5.get? env.locals = some o1 := p1
      rw [q5] at p1; cases p1; cases p2
    have bL : base.get? env.locals = none := by rw [e4]; exact fr1 _ (Nat.le_refl _)
    have st6 : base.StaysIn h6 := fun b o z => (s6.2 b fun y => by subst y; rw [bL] at z; cases z).trans (y5.stays b o z)
    have q6 := (s6.2 e eL).trans q5
    have nd6 : h6.Ns dx (kindMap u1 u2) := (up25.ns n2).sameBut s6 dl
    have hu : ((A.deeper env).mark (some (.ref e))).units + 64 < cLine := by
      have := room.units; have : cLine = 9900 := by decide
      show A.units + 3 + 64 < cLine
      omega
    refine wpAny_execs_cons (wpAny_Return_some (BoolOp_and ?_))
    have m6 : (if ("b" : Str) = "e" then some (Value.ref e) else bindL env.kindOf ((["a", "b"] : List Str).zip [va, .ref ab]) (fun _ => none) "b") = some (.ref ab) := by rw [if_neg (by decide)]; exact mb
    have lb6 : h6.get? ab = _ := st6 _ _ hvb
    refine wpAny_Compare1 (wpAny_Name (wpAny_loadName_local hk ((ek _).trans rfl) n6 m6 (List_ (wpAny_items_nil (wpAny_newObj_type ?_)))) (by decide)) rfl
    dsimp only
    generalize hH7 : h6.push { cls := .type "list", data := .seq (List.toArray ([] : List Value)) } = h7
    have k7 : ∀ b o, h6.get? b = some o → h7.get? b = some o := fun b o z => by rw [← hH7]; exact Heap.get?_push_of_some _ z
    have l7 : h7.get? h6.objs.size = some { cls := .type "list", data := .seq (List.toArray ([] : List Value)) } := by rw [← hH7]; exact Heap.get?_push_size _ rfl
    refine (eqV_ok (X := ⟨[], none⟩) (a := .poly []) (b := .poly []) (x := true) hu rfl ⟨ab, [], rfl, List.not_mem_nil, ⟨_, k7 _ _ lb6⟩, trivial⟩ ⟨_, [], rfl, List.not_mem_nil, ⟨_, l7⟩, trivial⟩).1 ?_
    refine wpAny_truthy_bool ?_
    rw [if_pos rfl]
    refine BoolOp_one (wpAny_Compare1 (Attribute_name (wpAny_Name (wpAny_loadName_local hk ((ek _).trans rfl) (n6.keeps k7) (if_pos rfl) ?_) (by decide))) rfl)
    have hb7 : ∀ b o, g.B.get? b = some o → h7.get? b = some o := fun b o z => k7 _ _ (st6 b o (hgb b o z))
    refine loadE (hb7 _ _ hC) (hN.keeps hb7) i3 i4 i5 lk_kind (k7 _ _ q6) rfl (fun c z => by cases z) rfl (nd6.keeps k7) (v := .str "division by zero" u1) rfl rfl ?_
    refine wpAny_Constant_str (eq_str ?_)
    refine wpAny_nameGoes ((ek _).trans rfl) (n6.keeps k7) (by rw [hk]; rfl) fun h8 m8 n8 s8 => ?_
    refine ⟨congrArg Value.bool (beq_self_eq_true _), ?_⟩
    have st8 : base.StaysIn h8 := fun b o z => (s8.2 b fun y => by subst y; rw [bL] at z; cases z).trans (k7 _ _ (st6 b o z))
    have lt : ∀ b o, s.heap.get? b = some o → b ≠ env.locals := fun b o z y => by subst y; have := Heap.lt_size z; rw [e4] at this; exact Nat.lt_irrefl _ this
    have up8 : s.heap.UpToSlots h8 := fun b o z hnf => by
      obtain ⟨sl, z'⟩ := ((up2.trans up25) b o (hk1 b o z) hnf)
      exact ⟨sl, (s8.2 b (lt b o z)).trans (k7 _ _ ((s6.2 b (lt b o z)).trans z'))⟩
    refine ⟨fun a o _ hf z => st8 a o (hto a o z hf), fun a m hm => up8.ns hm, fun b c eb n' t' is vs' ⟨y1, z1⟩ ⟨y2, z2⟩ hi => ⟨n', t', is, vs', ⟨y1, st8 _ _ (hto _ _ z1 (notL _ _ ⟨y1, z1⟩))⟩, ⟨y2, st8 _ _ (hto _ _ z2 (notL _ _ ⟨y2, z2⟩))⟩, hi⟩, ⟨_, _, rfl⟩⟩

theorem divw_ok {g : Gl} (G : g.Ok) {C N fI : Addr} {fdI : FuncData} (CA : CasOk g C N fI fdI) {ad aq : Addr} {fd fq : FuncData} (F : FnAt g ad fd (bodyAt 52) ["a", "b"]) (hsc : fd.scope.names = (scopeAt 52).names)
    (Fq : FnAt g aq fq (bodyAt 30) ["a", "b"]) (hscq : fq.scope.names = (scopeAt 30).names) (hq : g.mg "qdivmod" = some (.ref aq)) (hlen : g.mg "len" = none ∧ g.mb "len" = some (.builtin "len"))
    {n : Nat} (hD : Calls g (n + 2) (.ref ad) sDivR) : DivW g (n + 2) (.ref ad) := by
  intro A X s ws a b room wf ⟨l, hfr, hfun⟩ hns hpre hr
  by_cases hb : b = []
  · subst hb
    obtain ⟨va, _, rfl, -, ab, vs, rfl, z, hl, hvs⟩ := hr.two
    obtain rfl := hvs.none
    exact divw_nil G CA F hsc Fq hscq hq hlen room wf hfr hfun hns z hl
  · exact hD A X s ws [.poly a, .poly b] (fun d => d = .bool true) _ room wf ⟨hpre, hb, rfl⟩ hr fun d v s' hd hs hv => by
      subst hd
      exact ⟨hv, hs.weak wf⟩
end Mine

set_option maxRecDepth 100000
namespace Mine

theorem cells_some {x : Str} : ∀ (l : List (Str × NameKind)) (n : Nat) (acc : List (Str × Addr)), ((x, NameKind.cell) ∈ l ∨ (acc.lookup x).isSome = true) → ((cellsFrom n l acc).lookup x).isSome = true
  | [], _, _, h => by
    rcases h with h | h
    · exact (List.not_mem_nil h).elim
    · exact h
  | (y, k) :: r, n, acc, h => by
    unfold cellsFrom
    split
    · refine cells_some r _ _ ?_
      rcases h with h | h
      · rcases List.mem_cons.mp h with e | h
        · cases e
          exact .inr (by simp)
        · exact .inl h
      · refine .inr ?_
        rw [List.lookup_cons]
        split
        · rfl
        · exact h
    · rename_i hk
      refine cells_some r _ _ ?_
      rcases h with h | h
      · rcases List.mem_cons.mp h with e | h
        · cases e
          exact absurd rfl hk
        · exact .inl h
      · exact .inr h

noncomputable def fnOk (i : Nat) (names : List Str) : Bool :=
  decide names.Nodup && names.all (fun x => decide ((scopeAt i).names.lookup x = some .local) || decide ((scopeAt i).names.lookup x = some .cell)) &&
    decide ((scopeAt i).names.lookup ("__debug__" : Str) = none) && decide ((scopeAt i).names.lookup ("__classdict__" : Str) = none) && !(scopeAt i).isCoroutine && !(scopeAt i).isGenerator

noncomputable def BindOk (i : Nat) (names : List Str) : Prop := ∀ (vals : List Value) (pm code doc : Value), vals.length = names.length → bindArgs (PySem.Calls.docDef (nameAt i) (paramsAt i) (bodyAt i) (scopeAt i) pm code doc) ⟨vals, []⟩ = pure (names.zip vals)

theorem fnAt_doc {g : Gl} {i : Nat} {names : List Str} {a : Addr} {o : Obj} {pm code doc : Value} (ho : g.B.get? a = some o) (hd : o.data = .func (PySem.Calls.docDef (nameAt i) (paramsAt i) (bodyAt i) (scopeAt i) pm code doc))
    (hc : g.B.CodeRec code (nameAt i)) (hok : fnOk i names = true) (hk : (scopeAt i).kind = .function) (hb : BindOk i names) : FnAt g a (PySem.Calls.docDef (nameAt i) (paramsAt i) (bodyAt i) (scopeAt i) pm code doc) (bodyAt i) names := by
  simp only [fnOk, Bool.and_eq_true, decide_eq_true_eq, Bool.not_eq_true', List.all_eq_true, Bool.or_eq_true] at hok
  obtain ⟨⟨⟨⟨⟨h1, h2⟩, h3⟩, h4⟩, h5⟩, h6⟩ := hok
  exact ⟨⟨o, ho, hd⟩, hc, rfl, rfl, rfl, rfl, h5, h6, hk, h1, fun vals hl => hb vals pm code doc hl, h2, fun n x hx => cells_some _ _ _ (.inl (mem_of_lookup hx)), h3, h4⟩

theorem GoodS.mono {g : Gl} {n m : Nat} {f : Str} {S : Spec} (h : GoodS g n f S) (le : n ≤ m) : GoodS g m f S := by
  obtain ⟨fv, h1, h2, h3⟩ := h
  exact ⟨fv, h1, h2, fun A X s ws vs k Q room => h3 A X s ws vs k Q ⟨room.handled, by have := room.depth; omega, by have := room.units; omega, room.frames⟩⟩

theorem tabNil {g : Gl} {n : Nat} : TabOk g n fun x => ([] : List (Str × Spec)).lookup x := fun f S e => by simp at e
theorem tabCons {g : Gl} {n m : Nat} {f : Str} {S : Spec} {l : List (Str × Spec)} (h : GoodS g m f S) (le : m ≤ n) (t : TabOk g n fun x => l.lookup x) : TabOk g n fun x => ((f, S) :: l).lookup x := fun x T e => by
  have e : ((f, S) :: l).lookup x = some T := e
  rw [List.lookup_cons] at e
  by_cases q : (x == f) = true
  · rw [q] at e
    have e' : S = T := Option.some.inj e
    have q' : x = f := eq_of_beq q
    rw [q', ← e']
    exact h.mono le
  · rw [Bool.not_eq_true] at q
    rw [q] at e
    exact t x T e

/-- a def of the text's, found -/
structure Def (g : Gl) (i : Nat) (names : List Str) (a : Addr) (fd : FuncData) : Prop where
  F : FnAt g a fd (bodyAt i) names
  sc : fd.scope.names = (scopeAt i).names
  glob : g.mg (nameAt i) = some (.ref a)

theorem Def.keeps {g : Gl} {i : Nat} {names : List Str} {a : Addr} {fd : FuncData} (D : Def g i names a fd) : Keeps g (.ref a) := by
  obtain ⟨o, h1, h2⟩ := D.F.ob
  exact .inr (.inr ⟨_, _, _, rfl, h1, h2⟩)

theorem good_fn {g : Gl} (G : g.Ok) (n : Nat) {i : Nat} {l : List (Str × Spec)} {names : List Str} {S : Spec} {f : Str} (hD : ∃ a fd, Def g i names a fd) (hv : VcOk i l names S) (hf : nameAt i = f) (hT : TabOk g n fun x => l.lookup x) : GoodS g (n + 1) f S := by
  obtain ⟨a, fd, D⟩ := hD
  refine ⟨.ref a, .inl (hf ▸ D.glob), D.keeps, fn_ok G G.seer D.F hT fun vs k hS => ?_⟩
  rw [D.sc]
  exact hv vs k hS

theorem good_take {g : Gl} (G : g.Ok) (n : Nat) (hD : ∃ a fd, Def g 41 ["box", "many"] a fd) (hL : g.mg "len" = none ∧ g.mb "len" = some (.builtin "len")) : GoodS g (n + 1) "_law_take" sTake := by
  obtain ⟨a, fd, D⟩ := hD
  refine ⟨.ref a, .inl D.glob, D.keeps, fn_frame G G.seer D.F fun X vs k hS => ?_⟩
  unfold sTake at hS
  split at hS
  · rename_i m
    obtain ⟨h1, h2, h3⟩ := hS
    refine ⟨_, fun _ _ _ r => r, rfl, fun t e1 e2 e3 ok s₁ Q' st hN hR => ?_⟩
    subst e1 e2
    rw [D.sc] at ok
    exact take_body ok hL h1 (kR := cvK k) (fun c c0 c1 => ⟨.int c, (rfl : c = c), h3 c c0 c1⟩) st hR
  · exact hS.elim
end Mine

set_option maxRecDepth 100000
namespace Mine
noncomputable def posAt (i : Nat) : Pos := match stAt i with | .FunctionDef _ _ _ _ _ _ _ _ _ p => p | _ => ⟨0, 0, 0, 0⟩
noncomputable def recD (i : Nat) : DefRec := ⟨nameAt i, paramsAt i, bodyAt i, scopeAt i, posAt i⟩
noncomputable def idxs : List Nat := [3,4,8,9,10,11,12,13,14,16,17,18,20,21,22,23,24,25,26,27,28,29,30,31,32,33,34,35,36,37,38,39,41,42,43,44,45,46,47,48,49,50,51,52,53]
noncomputable def DefsIn (g : Gl) : Prop := ∀ i ∈ idxs, ∃ a o pm code doc, g.mg (nameAt i) = some (.ref a) ∧ g.B.get? a = some o ∧ o.data = .func (PySem.Calls.docDef (nameAt i) (paramsAt i) (bodyAt i) (scopeAt i) pm code doc) ∧ g.B.CodeRec code (nameAt i)
theorem def_of {g : Gl} (h : DefsIn g) {i : Nat} (hi : i ∈ idxs) {names : List Str} (hok : fnOk i names = true) (hk : (scopeAt i).kind = .function) (hb : BindOk i names) : ∃ a fd, Def g i names a fd := by
  obtain ⟨a, o, pm, code, doc, h1, h2, h3, h4⟩ := h i hi
  exact ⟨a, _, fnAt_doc h2 h3 h4 hok hk hb, rfl, h1⟩
theorem len0 {vs : List Value} (h : vs.length = 0) : vs = [] := List.length_eq_zero_iff.mp h
theorem len1 {vs : List Value} (h : vs.length = 1) : ∃ a, vs = [a] := List.length_eq_one_iff.mp h
theorem len2 {vs : List Value} (h : vs.length = 2) : ∃ a b, vs = [a, b] := by
  cases vs with
  | nil => cases h
  | cons a l =>
    obtain ⟨b, rfl⟩ := len1 (Nat.succ.inj h)
    exact ⟨a, b, rfl⟩
theorem len3 {vs : List Value} (h : vs.length = 3) : ∃ a b c, vs = [a, b, c] := by
  cases vs with
  | nil => cases h
  | cons a l =>
    obtain ⟨b, c, rfl⟩ := len2 (Nat.succ.inj h)
    exact ⟨a, b, c, rfl⟩
theorem len4 {vs : List Value} (h : vs.length = 4) : ∃ a b c d, vs = [a, b, c, d] := by
  cases vs with
  | nil => cases h
  | cons a l =>
    obtain ⟨b, c, d, rfl⟩ := len3 (Nat.succ.inj h)
    exact ⟨a, b, c, d, rfl⟩

theorem bind_3 : BindOk 3 (["a", "b"] : List Str) := fun vals pm code doc h => by
  obtain ⟨a, b, rfl⟩ := len2 h
  rfl
theorem fnOk_3 : fnOk 3 (["a", "b"] : List Str) = true := by decide +kernel
theorem kind_3 : (scopeAt 3).kind = .function := rfl
theorem bind_4 : BindOk 4 (["numbers"] : List Str) := fun vals pm code doc h => by
  obtain ⟨a, rfl⟩ := len1 h
  rfl
theorem fnOk_4 : fnOk 4 (["numbers"] : List Str) = true := by decide +kernel
theorem kind_4 : (scopeAt 4).kind = .function := rfl
theorem bind_8 : BindOk 8 (["top", "bottom"] : List Str) := fun vals pm code doc h => by
  obtain ⟨a, b, rfl⟩ := len2 h
  rfl
theorem fnOk_8 : fnOk 8 (["top", "bottom"] : List Str) = true := by decide +kernel
theorem kind_8 : (scopeAt 8).kind = .function := rfl
theorem bind_9 : BindOk 9 (["a", "b"] : List Str) := fun vals pm code doc h => by
  obtain ⟨a, b, rfl⟩ := len2 h
  rfl
theorem fnOk_9 : fnOk 9 (["a", "b"] : List Str) = true := by decide +kernel
theorem kind_9 : (scopeAt 9).kind = .function := rfl
theorem bind_10 : BindOk 10 (["a", "b"] : List Str) := fun vals pm code doc h => by
  obtain ⟨a, b, rfl⟩ := len2 h
  rfl
theorem fnOk_10 : fnOk 10 (["a", "b"] : List Str) = true := by decide +kernel
theorem kind_10 : (scopeAt 10).kind = .function := rfl
theorem bind_11 : BindOk 11 (["a", "b"] : List Str) := fun vals pm code doc h => by
  obtain ⟨a, b, rfl⟩ := len2 h
  rfl
theorem fnOk_11 : fnOk 11 (["a", "b"] : List Str) = true := by decide +kernel
theorem kind_11 : (scopeAt 11).kind = .function := rfl
theorem bind_12 : BindOk 12 (["a", "b"] : List Str) := fun vals pm code doc h => by
  obtain ⟨a, b, rfl⟩ := len2 h
  rfl
theorem fnOk_12 : fnOk 12 (["a", "b"] : List Str) = true := by decide +kernel
theorem kind_12 : (scopeAt 12).kind = .function := rfl
theorem bind_13 : BindOk 13 (["a"] : List Str) := fun vals pm code doc h => by
  obtain ⟨a, rfl⟩ := len1 h
  rfl
theorem fnOk_13 : fnOk 13 (["a"] : List Str) = true := by decide +kernel
theorem kind_13 : (scopeAt 13).kind = .function := rfl
theorem bind_14 : BindOk 14 (["a"] : List Str) := fun vals pm code doc h => by
  obtain ⟨a, rfl⟩ := len1 h
  rfl
theorem fnOk_14 : fnOk 14 (["a"] : List Str) = true := by decide +kernel
theorem kind_14 : (scopeAt 14).kind = .function := rfl
theorem bind_42 : BindOk 42 (["top", "bottom"] : List Str) := fun vals pm code doc h => by
  obtain ⟨a, b, rfl⟩ := len2 h
  rfl
theorem fnOk_42 : fnOk 42 (["top", "bottom"] : List Str) = true := by decide +kernel
theorem kind_42 : (scopeAt 42).kind = .function := rfl
theorem bind_44 : BindOk 44 (["one", "other"] : List Str) := fun vals pm code doc h => by
  obtain ⟨a, b, rfl⟩ := len2 h
  rfl
theorem fnOk_44 : fnOk 44 (["one", "other"] : List Str) = true := by decide +kernel
theorem kind_44 : (scopeAt 44).kind = .function := rfl
theorem bind_45 : BindOk 45 (["one", "other"] : List Str) := fun vals pm code doc h => by
  obtain ⟨a, b, rfl⟩ := len2 h
  rfl
theorem fnOk_45 : fnOk 45 (["one", "other"] : List Str) = true := by decide +kernel
theorem kind_45 : (scopeAt 45).kind = .function := rfl
theorem bind_47 : BindOk 47 (["one"] : List Str) := fun vals pm code doc h => by
  obtain ⟨a, rfl⟩ := len1 h
  rfl
theorem fnOk_47 : fnOk 47 (["one"] : List Str) = true := by decide +kernel
theorem kind_47 : (scopeAt 47).kind = .function := rfl
theorem bind_20 : BindOk 20 (["row"] : List Str) := fun vals pm code doc h => by
  obtain ⟨a, rfl⟩ := len1 h
  rfl
theorem fnOk_20 : fnOk 20 (["row"] : List Str) = true := by decide +kernel
theorem kind_20 : (scopeAt 20).kind = .function := rfl
theorem bind_21 : BindOk 21 (["p"] : List Str) := fun vals pm code doc h => by
  obtain ⟨a, rfl⟩ := len1 h
  rfl
theorem fnOk_21 : fnOk 21 (["p"] : List Str) = true := by decide +kernel
theorem kind_21 : (scopeAt 21).kind = .function := rfl
theorem bind_22 : BindOk 22 (["p"] : List Str) := fun vals pm code doc h => by
  obtain ⟨a, rfl⟩ := len1 h
  rfl
theorem fnOk_22 : fnOk 22 (["p"] : List Str) = true := by decide +kernel
theorem kind_22 : (scopeAt 22).kind = .function := rfl
theorem bind_23 : BindOk 23 (["a", "b"] : List Str) := fun vals pm code doc h => by
  obtain ⟨a, b, rfl⟩ := len2 h
  rfl
theorem fnOk_23 : fnOk 23 (["a", "b"] : List Str) = true := by decide +kernel
theorem kind_23 : (scopeAt 23).kind = .function := rfl
theorem bind_24 : BindOk 24 (["p"] : List Str) := fun vals pm code doc h => by
  obtain ⟨a, rfl⟩ := len1 h
  rfl
theorem fnOk_24 : fnOk 24 (["p"] : List Str) = true := by decide +kernel
theorem kind_24 : (scopeAt 24).kind = .function := rfl
theorem bind_25 : BindOk 25 (["a", "b"] : List Str) := fun vals pm code doc h => by
  obtain ⟨a, b, rfl⟩ := len2 h
  rfl
theorem fnOk_25 : fnOk 25 (["a", "b"] : List Str) = true := by decide +kernel
theorem kind_25 : (scopeAt 25).kind = .function := rfl
theorem bind_26 : BindOk 26 (["p", "r"] : List Str) := fun vals pm code doc h => by
  obtain ⟨a, b, rfl⟩ := len2 h
  rfl
theorem fnOk_26 : fnOk 26 (["p", "r"] : List Str) = true := by decide +kernel
theorem kind_26 : (scopeAt 26).kind = .function := rfl
theorem bind_27 : BindOk 27 (["p", "many"] : List Str) := fun vals pm code doc h => by
  obtain ⟨a, b, rfl⟩ := len2 h
  rfl
theorem fnOk_27 : fnOk 27 (["p", "many"] : List Str) = true := by decide +kernel
theorem kind_27 : (scopeAt 27).kind = .function := rfl
theorem bind_28 : BindOk 28 (["a", "b"] : List Str) := fun vals pm code doc h => by
  obtain ⟨a, b, rfl⟩ := len2 h
  rfl
theorem fnOk_28 : fnOk 28 (["a", "b"] : List Str) = true := by decide +kernel
theorem kind_28 : (scopeAt 28).kind = .function := rfl
theorem bind_29 : BindOk 29 (["p", "many"] : List Str) := fun vals pm code doc h => by
  obtain ⟨a, b, rfl⟩ := len2 h
  rfl
theorem fnOk_29 : fnOk 29 (["p", "many"] : List Str) = true := by decide +kernel
theorem kind_29 : (scopeAt 29).kind = .function := rfl
theorem bind_35 : BindOk 35 (["p", "r"] : List Str) := fun vals pm code doc h => by
  obtain ⟨a, b, rfl⟩ := len2 h
  rfl
theorem fnOk_35 : fnOk 35 (["p", "r"] : List Str) = true := by decide +kernel
theorem kind_35 : (scopeAt 35).kind = .function := rfl
theorem bind_36 : BindOk 36 (["a", "b"] : List Str) := fun vals pm code doc h => by
  obtain ⟨a, b, rfl⟩ := len2 h
  rfl
theorem fnOk_36 : fnOk 36 (["a", "b"] : List Str) = true := by decide +kernel
theorem kind_36 : (scopeAt 36).kind = .function := rfl
theorem bind_37 : BindOk 37 (["a", "b", "r"] : List Str) := fun vals pm code doc h => by
  obtain ⟨a, b, c, rfl⟩ := len3 h
  rfl
theorem fnOk_37 : fnOk 37 (["a", "b", "r"] : List Str) = true := by decide +kernel
theorem kind_37 : (scopeAt 37).kind = .function := rfl
theorem bind_33 : BindOk 33 (["p"] : List Str) := fun vals pm code doc h => by
  obtain ⟨a, rfl⟩ := len1 h
  rfl
theorem fnOk_33 : fnOk 33 (["p"] : List Str) = true := by decide +kernel
theorem kind_33 : (scopeAt 33).kind = .function := rfl
theorem bind_34 : BindOk 34 (["p"] : List Str) := fun vals pm code doc h => by
  obtain ⟨a, rfl⟩ := len1 h
  rfl
theorem fnOk_34 : fnOk 34 (["p"] : List Str) = true := by decide +kernel
theorem kind_34 : (scopeAt 34).kind = .function := rfl
theorem bind_31 : BindOk 31 (["p"] : List Str) := fun vals pm code doc h => by
  obtain ⟨a, rfl⟩ := len1 h
  rfl
theorem fnOk_31 : fnOk 31 (["p"] : List Str) = true := by decide +kernel
theorem kind_31 : (scopeAt 31).kind = .function := rfl
theorem bind_16 : BindOk 16 (["p"] : List Str) := fun vals pm code doc h => by
  obtain ⟨a, rfl⟩ := len1 h
  rfl
theorem fnOk_16 : fnOk 16 (["p"] : List Str) = true := by decide +kernel
theorem kind_16 : (scopeAt 16).kind = .function := rfl
theorem bind_17 : BindOk 17 (["p", "k"] : List Str) := fun vals pm code doc h => by
  obtain ⟨a, b, rfl⟩ := len2 h
  rfl
theorem fnOk_17 : fnOk 17 (["p", "k"] : List Str) = true := by decide +kernel
theorem kind_17 : (scopeAt 17).kind = .function := rfl
theorem bind_18 : BindOk 18 (["p"] : List Str) := fun vals pm code doc h => by
  obtain ⟨a, rfl⟩ := len1 h
  rfl
theorem fnOk_18 : fnOk 18 (["p"] : List Str) = true := by decide +kernel
theorem kind_18 : (scopeAt 18).kind = .function := rfl
theorem bind_39 : BindOk 39 (["z"] : List Str) := fun vals pm code doc h => by
  obtain ⟨a, rfl⟩ := len1 h
  rfl
theorem fnOk_39 : fnOk 39 (["z"] : List Str) = true := by decide +kernel
theorem kind_39 : (scopeAt 39).kind = .function := rfl
theorem bind_38 : BindOk 38 (["q"] : List Str) := fun vals pm code doc h => by
  obtain ⟨a, rfl⟩ := len1 h
  rfl
theorem fnOk_38 : fnOk 38 (["q"] : List Str) = true := by decide +kernel
theorem kind_38 : (scopeAt 38).kind = .function := rfl
theorem bind_30 : BindOk 30 (["a", "b"] : List Str) := fun vals pm code doc h => by
  obtain ⟨a, b, rfl⟩ := len2 h
  rfl
theorem fnOk_30 : fnOk 30 (["a", "b"] : List Str) = true := by decide +kernel
theorem kind_30 : (scopeAt 30).kind = .function := rfl
theorem bind_32 : BindOk 32 (["a", "b"] : List Str) := fun vals pm code doc h => by
  obtain ⟨a, b, rfl⟩ := len2 h
  rfl
theorem fnOk_32 : fnOk 32 (["a", "b"] : List Str) = true := by decide +kernel
theorem kind_32 : (scopeAt 32).kind = .function := rfl
theorem bind_41 : BindOk 41 (["box", "many"] : List Str) := fun vals pm code doc h => by
  obtain ⟨a, b, rfl⟩ := len2 h
  rfl
theorem fnOk_41 : fnOk 41 (["box", "many"] : List Str) = true := by decide +kernel
theorem kind_41 : (scopeAt 41).kind = .function := rfl
theorem bind_43 : BindOk 43 (["box"] : List Str) := fun vals pm code doc h => by
  obtain ⟨a, rfl⟩ := len1 h
  rfl
theorem fnOk_43 : fnOk 43 (["box"] : List Str) = true := by decide +kernel
theorem kind_43 : (scopeAt 43).kind = .function := rfl
theorem bind_46 : BindOk 46 (["row", "r"] : List Str) := fun vals pm code doc h => by
  obtain ⟨a, b, rfl⟩ := len2 h
  rfl
theorem fnOk_46 : fnOk 46 (["row", "r"] : List Str) = true := by decide +kernel
theorem kind_46 : (scopeAt 46).kind = .function := rfl
theorem bind_48 : BindOk 48 (["row"] : List Str) := fun vals pm code doc h => by
  obtain ⟨a, rfl⟩ := len1 h
  rfl
theorem fnOk_48 : fnOk 48 (["row"] : List Str) = true := by decide +kernel
theorem kind_48 : (scopeAt 48).kind = .function := rfl
theorem bind_51 : BindOk 51 (["quotient", "b", "rest"] : List Str) := fun vals pm code doc h => by
  obtain ⟨a, b, c, rfl⟩ := len3 h
  rfl
theorem fnOk_51 : fnOk 51 (["quotient", "b", "rest"] : List Str) = true := by decide +kernel
theorem kind_51 : (scopeAt 51).kind = .function := rfl
theorem bind_49 : BindOk 49 (["a", "b", "made", "r"] : List Str) := fun vals pm code doc h => by
  obtain ⟨a, b, c, d, rfl⟩ := len4 h
  rfl
theorem fnOk_49 : fnOk 49 (["a", "b", "made", "r"] : List Str) = true := by decide +kernel
theorem kind_49 : (scopeAt 49).kind = .function := rfl
theorem bind_50 : BindOk 50 (["a"] : List Str) := fun vals pm code doc h => by
  obtain ⟨a, rfl⟩ := len1 h
  rfl
theorem fnOk_50 : fnOk 50 (["a"] : List Str) = true := by decide +kernel
theorem kind_50 : (scopeAt 50).kind = .function := rfl
theorem bind_52 : BindOk 52 (["a", "b"] : List Str) := fun vals pm code doc h => by
  obtain ⟨a, b, rfl⟩ := len2 h
  rfl
theorem fnOk_52 : fnOk 52 (["a", "b"] : List Str) = true := by decide +kernel
theorem kind_52 : (scopeAt 52).kind = .function := rfl

structure Env0 (g : Gl) : Prop where
  ok : g.Ok
  defs : DefsIn g
  len : g.mg "len" = none ∧ g.mb "len" = some (.builtin "len")
  abs : g.mg "abs" = none ∧ g.mb "abs" = some (.builtin "abs")
  max : g.mg "max" = none ∧ g.mb "max" = some (.builtin "max")
  list : g.mg "list" = none ∧ g.mb "list" = some (.type "list")

theorem chain {g : Gl} (e : Env0 g) {C N fI : Addr} {fdI : FuncData} (CA : CasOk g C N fI fdI) : ∃ n, n ≤ 40 ∧ (TabOk g n fun x => lawT.lookup x) ∧ ∃ fD, g.mg "_law_division_right" = some fD ∧ Keeps g fD ∧ DivW g n fD := by
  have g_len : GoodS g 0 "len" sLen := ⟨_, .inr e.len, .inl ⟨_, rfl⟩, len_ok⟩
  have g_abs : GoodS g 0 "abs" sAbs := ⟨_, .inr e.abs, .inl ⟨_, rfl⟩, abs_ok⟩
  have g_max : GoodS g 0 "max" sMax := ⟨_, .inr e.max, .inl ⟨_, rfl⟩, max_ok⟩
  have g_list : GoodS g 0 "list" sList := ⟨_, .inr e.list, .inr (.inl ⟨_, rfl⟩), list_ok⟩
  have g_gcd : GoodS g 1 "gcd" sGcd := good_fn e.ok 0 (def_of e.defs (by decide) fnOk_3 kind_3 bind_3) gcd_vc rfl (tabCons g_abs (by decide) tabNil)
  have g_gcd_all : GoodS g 2 "gcd_all" sGcdAll := good_fn e.ok 1 (def_of e.defs (by decide) fnOk_4 kind_4 bind_4) gcdAll_vc rfl (tabCons g_gcd (by decide) tabNil)
  have g_rat : GoodS g 2 "rat" sRat := good_fn e.ok 1 (def_of e.defs (by decide) fnOk_8 kind_8 bind_8) rat_vc rfl (tabCons g_gcd (by decide) tabNil)
  have g_radd : GoodS g 3 "radd" (sBin (· + ·)) := good_fn e.ok 2 (def_of e.defs (by decide) fnOk_9 kind_9 bind_9) radd_vc rfl (tabCons g_rat (by decide) tabNil)
  have g_rsub : GoodS g 3 "rsub" (sBin (· - ·)) := good_fn e.ok 2 (def_of e.defs (by decide) fnOk_10 kind_10 bind_10) rsub_vc rfl (tabCons g_rat (by decide) tabNil)
  have g_rmul : GoodS g 3 "rmul" (sBin (· * ·)) := good_fn e.ok 2 (def_of e.defs (by decide) fnOk_11 kind_11 bind_11) rmul_vc rfl (tabCons g_rat (by decide) tabNil)
  have g_rdiv : GoodS g 3 "rdiv" sRdiv := good_fn e.ok 2 (def_of e.defs (by decide) fnOk_12 kind_12 bind_12) rdiv_vc rfl (tabCons g_rat (by decide) tabNil)
  have g_rneg : GoodS g 1 "rneg" sRneg := good_fn e.ok 0 (def_of e.defs (by decide) fnOk_13 kind_13 bind_13) rneg_vc rfl tabNil
  have g_rinv : GoodS g 3 "rinv" sRinv := good_fn e.ok 2 (def_of e.defs (by decide) fnOk_14 kind_14 bind_14) rinv_vc rfl (tabCons g_rat (by decide) tabNil)
  have g__law_ratio : GoodS g 1 "_law_ratio" sRat := good_fn e.ok 0 (def_of e.defs (by decide) fnOk_42 kind_42 bind_42) lratio_vc rfl (tabCons g_abs (by decide) tabNil)
  have g__law_sum : GoodS g 2 "_law_sum" (sBin (· + ·)) := good_fn e.ok 1 (def_of e.defs (by decide) fnOk_44 kind_44 bind_44) lsum_vc rfl (tabCons g__law_ratio (by decide) tabNil)
  have g__law_times : GoodS g 2 "_law_times" (sBin (· * ·)) := good_fn e.ok 1 (def_of e.defs (by decide) fnOk_45 kind_45 bind_45) ltimes_vc rfl (tabCons g__law_ratio (by decide) tabNil)
  have g__law_minus : GoodS g 1 "_law_minus" sRneg := good_fn e.ok 0 (def_of e.defs (by decide) fnOk_47 kind_47 bind_47) lminus_vc rfl tabNil
  have g_qtrim : GoodS g 1 "qtrim" sQtrim := good_fn e.ok 0 (def_of e.defs (by decide) fnOk_20 kind_20 bind_20) qtrim_vc rfl (tabCons g_len (by decide) (tabCons g_list (by decide) tabNil))
  have g_qdegree : GoodS g 1 "qdegree" sQdegree := good_fn e.ok 0 (def_of e.defs (by decide) fnOk_21 kind_21 bind_21) qdegree_vc rfl (tabCons g_len (by decide) tabNil)
  have g_qlead : GoodS g 1 "qlead" sQlead := good_fn e.ok 0 (def_of e.defs (by decide) fnOk_22 kind_22 bind_22) qlead_vc rfl (tabCons g_len (by decide) tabNil)
  have g_qadd : GoodS g 4 "qadd" sQadd := good_fn e.ok 3 (def_of e.defs (by decide) fnOk_23 kind_23 bind_23) qadd_vc rfl (tabCons g_len (by decide) (tabCons g_max (by decide) (tabCons g_radd (by decide) (tabCons g_qtrim (by decide) tabNil))))
  have g_qneg : GoodS g 2 "qneg" sQneg := good_fn e.ok 1 (def_of e.defs (by decide) fnOk_24 kind_24 bind_24) qneg_vc rfl (tabCons g_rneg (by decide) tabNil)
  have g_qsub : GoodS g 5 "qsub" sQsub := good_fn e.ok 4 (def_of e.defs (by decide) fnOk_25 kind_25 bind_25) qsub_vc rfl (tabCons g_qadd (by decide) (tabCons g_qneg (by decide) tabNil))
  have g_qscale : GoodS g 4 "qscale" sQscale := good_fn e.ok 3 (def_of e.defs (by decide) fnOk_26 kind_26 bind_26) qscale_vc rfl (tabCons g_rmul (by decide) tabNil)
  have g_qraise : GoodS g 1 "qraise" sQraise := good_fn e.ok 0 (def_of e.defs (by decide) fnOk_27 kind_27 bind_27) qraise_vc rfl (tabCons g_len (by decide) (tabCons g_list (by decide) tabNil))
  have g_qmul : GoodS g 4 "qmul" sQmul := good_fn e.ok 3 (def_of e.defs (by decide) fnOk_28 kind_28 bind_28) qmul_vc rfl (tabCons g_len (by decide) (tabCons g_radd (by decide) (tabCons g_rmul (by decide) tabNil)))
  have g_qpower : GoodS g 5 "qpower" sQpower := good_fn e.ok 4 (def_of e.defs (by decide) fnOk_29 kind_29 bind_29) qpower_vc rfl (tabCons g_qmul (by decide) tabNil)
  have g_qat : GoodS g 4 "qat" sQat := good_fn e.ok 3 (def_of e.defs (by decide) fnOk_35 kind_35 bind_35) qat_vc rfl (tabCons g_radd (by decide) (tabCons g_rmul (by decide) tabNil))
  have g_qcompose : GoodS g 5 "qcompose" sQcompose := good_fn e.ok 4 (def_of e.defs (by decide) fnOk_36 kind_36 bind_36) qcompose_vc rfl (tabCons g_qadd (by decide) (tabCons g_qmul (by decide) (tabCons g_qtrim (by decide) tabNil)))
  have g_qdistance : GoodS g 5 "qdistance" sQdistance := good_fn e.ok 4 (def_of e.defs (by decide) fnOk_37 kind_37 bind_37) qdistance_vc rfl (tabCons g_rsub (by decide) (tabCons g_qat (by decide) tabNil))
  have g_qderive : GoodS g 4 "qderive" sQderive := good_fn e.ok 3 (def_of e.defs (by decide) fnOk_33 kind_33 bind_33) qderive_vc rfl (tabCons g_rmul (by decide) tabNil)
  have g_qintegral : GoodS g 4 "qintegral" sQintegral := good_fn e.ok 3 (def_of e.defs (by decide) fnOk_34 kind_34 bind_34) qintegral_vc rfl (tabCons g_len (by decide) (tabCons g_rdiv (by decide) tabNil))
  have g_qmonic : GoodS g 5 "qmonic" sQmonic := good_fn e.ok 4 (def_of e.defs (by decide) fnOk_31 kind_31 bind_31) qmonic_vc rfl (tabCons g_len (by decide) (tabCons g_rinv (by decide) (tabCons g_qscale (by decide) tabNil)))
  have g_zcontent : GoodS g 3 "zcontent" sGcdAll := good_fn e.ok 2 (def_of e.defs (by decide) fnOk_16 kind_16 bind_16) zcontent_vc rfl (tabCons g_gcd_all (by decide) tabNil)
  have g_zdivided : GoodS g 1 "zdivided" sZdivided := good_fn e.ok 0 (def_of e.defs (by decide) fnOk_17 kind_17 bind_17) zdivided_vc rfl tabNil
  have g_zprimitive : GoodS g 4 "zprimitive" sZprimitive := good_fn e.ok 3 (def_of e.defs (by decide) fnOk_18 kind_18 bind_18) zprimitive_vc rfl (tabCons g_len (by decide) (tabCons g_zcontent (by decide) (tabCons g_zdivided (by decide) tabNil)))
  have g_from_z : GoodS g 1 "from_z" sFromZ := good_fn e.ok 0 (def_of e.defs (by decide) fnOk_39 kind_39 bind_39) fromz_vc rfl tabNil
  have g_to_z : GoodS g 5 "to_z" sToZ := good_fn e.ok 4 (def_of e.defs (by decide) fnOk_38 kind_38 bind_38) toz_vc rfl (tabCons g_len (by decide) (tabCons g_gcd (by decide) (tabCons g_zcontent (by decide) (tabCons g_zprimitive (by decide) (tabCons g_rat (by decide) tabNil)))))
  have g_qdivmod : GoodS g 6 "qdivmod" sDivmod := good_fn e.ok 5 (def_of e.defs (by decide) fnOk_30 kind_30 bind_30) qdivmod_vc rfl (tabCons g_len (by decide) (tabCons g_list (by decide) (tabCons g_max (by decide) (tabCons g_rdiv (by decide) (tabCons g_qsub (by decide) (tabCons g_qraise (by decide) (tabCons g_qscale (by decide) (tabCons g_qtrim (by decide) tabNil))))))))
  have g_qgcd : GoodS g 7 "qgcd" sQgcd := good_fn e.ok 6 (def_of e.defs (by decide) fnOk_32 kind_32 bind_32) qgcd_vc rfl (tabCons g_len (by decide) (tabCons g_qmonic (by decide) (tabCons g_qdivmod (by decide) tabNil)))
  have g__law_take : GoodS g 1 "_law_take" sTake := good_take e.ok 0 (def_of e.defs (by decide) fnOk_41 kind_41 bind_41) e.len
  have g__law_row : GoodS g 2 "_law_row" sRow := good_fn e.ok 1 (def_of e.defs (by decide) fnOk_43 kind_43 bind_43) lrow_vc rfl (tabCons g__law_take (by decide) (tabCons g__law_ratio (by decide) tabNil))
  have g__law_worth : GoodS g 2 "_law_worth" sWorth := good_fn e.ok 1 (def_of e.defs (by decide) fnOk_46 kind_46 bind_46) lworth_vc rfl (tabCons g__law_ratio (by decide) tabNil)
  have g__law_slope : GoodS g 3 "_law_slope" sSlope := good_fn e.ok 2 (def_of e.defs (by decide) fnOk_48 kind_48 bind_48) lslope_vc rfl (tabCons g_len (by decide) (tabCons g__law_sum (by decide) tabNil))
  have g__law_back : GoodS g 3 "_law_back" sBack := good_fn e.ok 2 (def_of e.defs (by decide) fnOk_51 kind_51 bind_51) lback_vc rfl (tabCons g_len (by decide) (tabCons g__law_sum (by decide) (tabCons g__law_times (by decide) tabNil)))
  have g__law_values_right : GoodS g 6 "_law_values_right" sValues := good_fn e.ok 5 (def_of e.defs (by decide) fnOk_49 kind_49 bind_49) lvalues_vc rfl (tabCons g__law_worth (by decide) (tabCons g__law_sum (by decide) (tabCons g__law_times (by decide) (tabCons g__law_minus (by decide) (tabCons g_qat (by decide) (tabCons g_qscale (by decide) (tabCons g_qdistance (by decide) tabNil)))))))
  have g__law_forms_right : GoodS g 8 "_law_forms_right" sForms := good_fn e.ok 7 (def_of e.defs (by decide) fnOk_50 kind_50 bind_50) lforms_vc rfl (tabCons g_to_z (by decide) (tabCons g_from_z (by decide) (tabCons g_qscale (by decide) (tabCons g_abs (by decide) (tabCons g_qmonic (by decide) (tabCons g__law_times (by decide) (tabCons g__law_ratio (by decide) (tabCons g_qgcd (by decide) (tabCons g_qintegral (by decide) (tabCons g_qderive (by decide) (tabCons g__law_slope (by decide) (tabCons g__law_worth (by decide) (tabCons g_qdegree (by decide) (tabCons g_qlead (by decide) (tabCons g_len (by decide) tabNil)))))))))))))))
  obtain ⟨ad, fd, D⟩ := def_of e.defs (by decide) fnOk_52 kind_52 bind_52
  obtain ⟨aq, fq, Q⟩ := def_of e.defs (by decide) fnOk_30 kind_30 bind_30
  have hD : Calls g 7 (.ref ad) sDivR := divr_ok e.ok e.ok.seer D.F D.sc (tabCons g_qdivmod (by decide) (tabCons g_len (by decide) (tabCons g__law_back (by decide) (tabCons g_list (by decide) tabNil))))
  have hW : DivW g 7 (.ref ad) := divw_ok e.ok CA D.F D.sc Q.F Q.sc Q.glob e.len hD
  refine ⟨8, by decide, (tabCons g__law_row (by decide) (tabCons g_qadd (by decide) (tabCons g_qsub (by decide) (tabCons g_qmul (by decide) (tabCons g_qneg (by decide) (tabCons g_qpower (by decide) (tabCons g_qcompose (by decide) (tabCons g__law_ratio (by decide) (tabCons g__law_take (by decide) (tabCons g__law_values_right (by decide) (tabCons g_qscale (by decide) (tabCons g__law_forms_right (by decide) tabNil)))))))))))), .ref ad, D.glob, D.keeps, ?_⟩
  exact fun A X s ws a b room => hW A X s ws a b ⟨room.handled, by have := room.depth; omega, by have := room.units; omega, room.frames⟩
end Mine

set_option maxRecDepth 100000
namespace Mine

noncomputable def keep : List Nat := [1,3,4,6,7,8,9,10,11,12,13,14,16,17,18,20,21,22,23,24,25,26,27,28,29,30,31,32,33,34,35,36,37,38,39,41,42,43,44,45,46,47,48,49,50,51,52,53]
noncomputable def initParams : Arguments := match initStmt with | .FunctionDef _ a _ _ _ _ _ _ _ _ => a | _ => { posonlyargs := [], args := [], vararg := none, kwonlyargs := [], kw_defaults := [], kwarg := none, defaults := [] }
noncomputable def fdI : FuncData := { name := "__init__", qualname := "CasFail.__init__", params := initParams, body := .stmts initBody, scope := initScope, globals := mainGlobals, closure := [], defaults := .none, kwdefaults := .none, pyModule := .str "cas.errors" 187, code := .ref 27 }
noncomputable def entryAt (P : Params) (x : Str) (u : Tok) (v : Value) : DictEntry := { hash := PyData.keyHash P x, key := .str x u, val := v }
/-- the few objects that the law leans on -/
noncomputable def Ks (P : Params) : Frag :=
  [(27, { cls := .type "code", data := .fields #[.str "__init__" 201, .str "CasFail.__init__" 202, .str "/claim/cut.py" 203, .int 4 0, .int 3 0, .int 0 0, .int 0 0, .int 3 0, .ref 22, .bool true, .int 181 0, .ref 23, .none, .ref 24, .ref 25, .ref 26, .int 207 0, .int 4 0, .str "/claim/cut.py" 208] }),
   (28, { cls := .type "function", data := .func fdI }),
   (30, { cls := .type "dict", data := .dict #[entryAt P "__module__" 196 (.str "cas.errors" 187), entryAt P "__firstlineno__" 200 (.int 2 199), entryAt P "__init__" 209 (.ref 28), entryAt P "__static_attributes__" 212 (.ref 29), entryAt P "__weakref__" 214 (.ref 32), entryAt P "__doc__" 215 .none] 3 }),
   (31, excClassObj "CasFail" "CasFail" 31 30 [.type "Exception"] bmE true [] [] false none none (some (.ref 15)) none (some (.str "CasFail" 189)) (some (.str "CasFail" 197)) (some (.bool true)) "Exception.__new__"),
   (49, { cls := .type "tuple", data := .seq #[.int 0 241, .int 1 242] }),
   (50, { cls := .type "tuple", data := .seq #[.int 1 244, .int 1 245] })]
noncomputable def adrs : List Addr := [27, 28, 30, 31, 49, 50]

noncomputable def hk : Hook where
  α := List (Option Obj) × List (Option Value) × Bool
  obs := fun s => (adrs.map s.heap.get?, [s.heap.nsMap mainGlobals "R0", s.heap.nsMap mainGlobals "R1", s.heap.nsMap mainGlobals "CasFail"], s.heap.isNs mainGlobals)
  val := fun w => ((Ks w.params).map fun p => some p.2, [some (.ref 49), some (.ref 50), some (.ref 31)], true)
  says := fun w h => (Ks w.params).In h ∧ ∃ m, h.Ns mainGlobals m ∧ m "R0" = some (.ref 49) ∧ m "R1" = some (.ref 50) ∧ m "CasFail" = some (.ref 31)
  of := fun w s e => by
    have e1 := congrArg (·.1) e
    have e2 := congrArg (·.2.1) e
    have e3 := congrArg (·.2.2) e
    simp only [List.cons.injEq, and_true] at e2
    refine ⟨InK.of (K := Ks) (as := adrs) (fun P => rfl) w s e1, _, .of_isNs e3, e2.1, e2.2.1, e2.2.2⟩
  keeps := fun w h h' ⟨a, m, b, c⟩ k => ⟨a.keeps k, m, b.keeps k, c⟩

theorem and2 {a b : Bool} (x : a = true) (y : b = true) : (a && b) = true := by rw [x, y]; rfl
theorem saidA : (PySem.W.Fast.tw8377067652309620493 PySem.Challenge.pw_pq0189_01) = true := by kernel_rfl
theorem saidB : (PySem.W.R.allR (PySem.W.Fast.tw18344453789297297638 PySem.Challenge.pw_pq0189_01) fun n => !PySem.W.Fast.tw3471404346716756564 PySem.W.Fast.tw14412699480532031325 n) = true := by kernel_rfl
theorem saidC : (PySem.W.Fast.tw8326940854005059898 { strict := !PySem.W.R.allR (PySem.W.Fast.tw5923862056798008813 PySem.Challenge.pw_pq0189_01.main.body) (PySem.W.Fast.tw3471404346716756564 PySem.W.Fast.tw17691160309236699985), foot := none, bare := PySem.W.R.filterR (PySem.W.Fast.tw13343964577679436407 PySem.Challenge.pw_pq0189_01 PySem.Challenge.pw_pq0189_01.main.body) [{ cps := { toList := [118, 97, 114, 115] } }, { cps := { toList := [100, 105, 114] } }, { cps := { toList := [108, 111, 99, 97, 108, 115] } }] } PySem.Challenge.pw_pq0189_01.main.body) = true := by kernel_rfl
theorem saidD : (PySem.W.Fast.tw17119622794617984870 PySem.Challenge.pw_pq0189_01 PySem.Challenge.pw_pq0189_01.main.body fun _ n => PySem.W.Fast.tw17868728402115742887 n) = true := by kernel_rfl
theorem saidLooks : PySem.W.Fast.tw12908688711261696721 (PySem.W.Fast.tw2368527892694137696 PySem.Challenge.rw_pq0189_01).prog = true := by
  show PySem.W.Fast.tw12908688711261696721 PySem.Challenge.pw_pq0189_01 = true
  unfold PySem.W.Fast.tw12908688711261696721
  refine and2 (and2 (and2 (and2 ?_ saidA) saidB) saidC) saidD
  kernel_rfl
theorem saidSolid : PySem.W.Fast.tw13582783067957832011 (PySem.W.Fast.tw2368527892694137696 PySem.Challenge.rw_pq0189_01).toRowW = true := by kernel_rfl
theorem saidPart : PySem.W.Fast.tw2436336058641802641 (PySem.W.Fast.tw2368527892694137696 PySem.Challenge.rw_pq0189_01) = true := by
  unfold PySem.W.Fast.tw2436336058641802641
  iterate 6 refine and2 ?_ (by kernel_rfl)
  refine and2 ?_ saidSolid
  iterate 6 refine and2 ?_ (by kernel_rfl)
  exact saidLooks
theorem saidRow : PySem.W.Fast.tw17960256430627541270 (PySem.W.Fast.tw2368527892694137696 PySem.Challenge.rw_pq0189_01) = true := by
  unfold PySem.W.Fast.tw17960256430627541270
  iterate 2 refine and2 ?_ (by kernel_rfl)
  exact saidPart
theorem said : PySem.Challenge.rw_pq0189_01.wellSaid = true := by
  rw [PySem.W.Fast.te9446332074065402090]
  unfold PySem.W.Fast.tw9446332074065402090
  iterate 18 refine and2 ?_ (by kernel_rfl)
  exact saidRow
end Mine

set_option maxRecDepth 100000
namespace Mine
section
noncomputable def q : Program := PySem.W.view PySem.Challenge.pw_pq0189_01 keep
noncomputable abbrev pT : Program := PySem.Challenge.pw_pq0189_01
noncomputable def stT (i : Nat) : Stmt := pT.main.body.getD i (.Pass ⟨0, 0, 0, 0⟩)
noncomputable def stI : Stmt := match stT 1 with | .ClassDef _ _ _ b _ _ _ _ _ _ _ => b.getD 0 (.Pass ⟨0, 0, 0, 0⟩) | _ => .Pass ⟨0, 0, 0, 0⟩
noncomputable def bodyS (s : Stmt) : List Stmt := match s with | .FunctionDef _ _ b _ _ _ _ _ _ _ => b | _ => []
noncomputable def scopeS (s : Stmt) : Scope := match s with | .FunctionDef _ _ _ _ _ _ s _ _ _ => s | _ => { kind := .module, names := [], isGenerator := false, isCoroutine := false, more := [] }
noncomputable def paramsS (s : Stmt) : Arguments := match s with | .FunctionDef _ a _ _ _ _ _ _ _ _ => a | _ => { posonlyargs := [], args := [], vararg := none, kwonlyargs := [], kw_defaults := [], kwarg := none, defaults := [] }
/-- a def's data in the heap -/
noncomputable def fT (s : Stmt) (name qual : Str) (g : Addr) (mod code : Value) : FuncData := { name := name, qualname := qual, params := paramsS s, body := .stmts (bodyS s), scope := scopeS s, globals := g, closure := [], defaults := .none, kwdefaults := .none, pyModule := mod, code := code }

noncomputable def fo_2 (P : Params) : Obj := ⟨.none, none, .dict ⟨[entryAt P ⟨⟨[116,121,112,101,46,95,95,115,117,98,99,108,97,115,115,101,115,95,95,46,69,120,99,101,112,116,105,111,110,46,48]⟩⟩ 216 (.int 31 0), entryAt P ⟨⟨[116,121,112,101,46,95,95,115,117,98,99,108,97,115,115,101,115,95,95,46,69,120,99,101,112,116,105,111,110,46,110]⟩⟩ 217 (.int 1 0)]⟩ 2, ⟨[]⟩⟩
noncomputable def fo_3 (P : Params) : Obj := ⟨.type "dict", none, .dict ⟨[entryAt P ⟨⟨[95,95,110,97,109,101,95,95]⟩⟩ 165 (.str ⟨⟨[108,97,119,95,112,113,48,49,56,57,95,48,49]⟩⟩ 487), entryAt P ⟨⟨[95,95,100,111,99,95,95]⟩⟩ 166 (.none), entryAt P ⟨⟨[95,95,112,97,99,107,97,103,101,95,95]⟩⟩ 167 (.none), entryAt P ⟨⟨[95,95,108,111,97,100,101,114,95,95]⟩⟩ 168 (.builtin "__main__.__loader__#opaque"), entryAt P ⟨⟨[95,95,115,112,101,99,95,95]⟩⟩ 169 (.none), entryAt P ⟨⟨[95,95,97,110,110,111,116,97,116,105,111,110,115,95,95]⟩⟩ 170 (.ref 6), entryAt P ⟨⟨[95,95,98,117,105,108,116,105,110,115,95,95]⟩⟩ 171 (.ref 4), entryAt P ⟨⟨[95,95,102,105,108,101,95,95]⟩⟩ 173 (.str ⟨⟨[47,99,108,97,105,109,47,99,117,116,46,112,121]⟩⟩ 172), entryAt P ⟨⟨[95,95,99,97,99,104,101,100,95,95]⟩⟩ 174 (.none), entryAt P ⟨⟨[67,97,115,70,97,105,108]⟩⟩ 219 (.ref 31), entryAt P ⟨⟨[103,99,100]⟩⟩ 229 (.ref 41), entryAt P ⟨⟨[103,99,100,95,97,108,108]⟩⟩ 238 (.ref 48), entryAt P ⟨⟨[82,48]⟩⟩ 243 (.ref 49), entryAt P ⟨⟨[82,49]⟩⟩ 246 (.ref 50), entryAt P ⟨⟨[114,97,116]⟩⟩ 255 (.ref 57), entryAt P ⟨⟨[114,97,100,100]⟩⟩ 263 (.ref 64), entryAt P ⟨⟨[114,115,117,98]⟩⟩ 271 (.ref 71), entryAt P ⟨⟨[114,109,117,108]⟩⟩ 279 (.ref 78), entryAt P ⟨⟨[114,100,105,118]⟩⟩ 287 (.ref 85), entryAt P ⟨⟨[114,110,101,103]⟩⟩ 294 (.ref 92), entryAt P ⟨⟨[114,105,110,118]⟩⟩ 301 (.ref 99), entryAt P ⟨⟨[122,99,111,110,116,101,110,116]⟩⟩ 310 (.ref 106), entryAt P ⟨⟨[122,100,105,118,105,100,101,100]⟩⟩ 316 (.ref 111), entryAt P ⟨⟨[122,112,114,105,109,105,116,105,118,101]⟩⟩ 324 (.ref 118), entryAt P ⟨⟨[113,116,114,105,109]⟩⟩ 334 (.ref 125), entryAt P ⟨⟨[113,100,101,103,114,101,101]⟩⟩ 341 (.ref 132), entryAt P ⟨⟨[113,108,101,97,100]⟩⟩ 348 (.ref 139), entryAt P ⟨⟨[113,97,100,100]⟩⟩ 354 (.ref 144), entryAt P ⟨⟨[113,110,101,103]⟩⟩ 360 (.ref 149), entryAt P ⟨⟨[113,115,117,98]⟩⟩ 368 (.ref 156), entryAt P ⟨⟨[113,115,99,97,108,101]⟩⟩ 374 (.ref 161), entryAt P ⟨⟨[113,114,97,105,115,101]⟩⟩ 382 (.ref 168), entryAt P ⟨⟨[113,109,117,108]⟩⟩ 395 (.ref 175), entryAt P ⟨⟨[113,112,111,119,101,114]⟩⟩ 405 (.ref 182), entryAt P ⟨⟨[113,100,105,118,109,111,100]⟩⟩ 418 (.ref 189), entryAt P ⟨⟨[113,109,111,110,105,99]⟩⟩ 425 (.ref 196), entryAt P ⟨⟨[113,103,99,100]⟩⟩ 433 (.ref 203), entryAt P ⟨⟨[113,100,101,114,105,118,101]⟩⟩ 439 (.ref 208), entryAt P ⟨⟨[113,105,110,116,101,103,114,97,108]⟩⟩ 445 (.ref 213), entryAt P ⟨⟨[113,97,116]⟩⟩ 455 (.ref 220), entryAt P ⟨⟨[113,99,111,109,112,111,115,101]⟩⟩ 465 (.ref 227), entryAt P ⟨⟨[113,100,105,115,116,97,110,99,101]⟩⟩ 474 (.ref 234), entryAt P ⟨⟨[116,111,95,122]⟩⟩ 480 (.ref 239), entryAt P ⟨⟨[102,114,111,109,95,122]⟩⟩ 486 (.ref 244), entryAt P ⟨⟨[95,108,97,119,95,116,97,107,101]⟩⟩ 497 (.ref 251), entryAt P ⟨⟨[95,108,97,119,95,114,97,116,105,111]⟩⟩ 507 (.ref 258), entryAt P ⟨⟨[95,108,97,119,95,114,111,119]⟩⟩ 516 (.ref 265), entryAt P ⟨⟨[95,108,97,119,95,115,117,109]⟩⟩ 524 (.ref 272), entryAt P ⟨⟨[95,108,97,119,95,116,105,109,101,115]⟩⟩ 532 (.ref 279), entryAt P ⟨⟨[95,108,97,119,95,119,111,114,116,104]⟩⟩ 545 (.ref 286), entryAt P ⟨⟨[95,108,97,119,95,109,105,110,117,115]⟩⟩ 552 (.ref 293), entryAt P ⟨⟨[95,108,97,119,95,115,108,111,112,101]⟩⟩ 563 (.ref 300), entryAt P ⟨⟨[95,108,97,119,95,118,97,108,117,101,115,95,114,105,103,104,116]⟩⟩ 569 (.ref 305), entryAt P ⟨⟨[95,108,97,119,95,102,111,114,109,115,95,114,105,103,104,116]⟩⟩ 575 (.ref 310), entryAt P ⟨⟨[95,108,97,119,95,98,97,99,107]⟩⟩ 590 (.ref 317), entryAt P ⟨⟨[95,108,97,119,95,100,105,118,105,115,105,111,110,95,114,105,103,104,116]⟩⟩ 601 (.ref 324), entryAt P ⟨⟨[108,97,119]⟩⟩ 607 (.ref 329)]⟩ 57, ⟨[]⟩⟩
noncomputable def fo_11 (_ : Params) : Obj := ⟨.type "tuple", none, .seq ⟨[]⟩ 0, ⟨[]⟩⟩
noncomputable def fo_12 (_ : Params) : Obj := ⟨.none, none, .fields ⟨[.int 2 0, .int 0 0, .ref 20, .int 9 0, .int 0 0, .ref 40, .int 14 0, .int 0 0, .ref 47, .int 22 0, .int 0 0, .ref 56, .int 27 0, .int 0 0, .ref 63, .int 29 0, .int 0 0, .ref 70, .int 31 0, .int 0 0, .ref 77, .int 33 0, .int 0 0, .ref 84, .int 35 0, .int 0 0, .ref 91, .int 37 0, .int 0 0, .ref 98, .int 40 0, .int 0 0, .ref 105, .int 42 0, .int 0 0, .ref 110, .int 44 0, .int 0 0, .ref 117, .int 50 0, .int 0 0, .ref 124, .int 55 0, .int 0 0, .ref 131, .int 57 0, .int 0 0, .ref 138, .int 59 0, .int 0 0, .ref 143, .int 62 0, .int 0 0, .ref 148, .int 64 0, .int 0 0, .ref 155, .int 66 0, .int 0 0, .ref 160, .int 68 0, .int 0 0, .ref 167, .int 70 0, .int 0 0, .ref 174, .int 78 0, .int 0 0, .ref 181, .int 83 0, .int 0 0, .ref 188, .int 93 0, .int 0 0, .ref 195, .int 95 0, .int 0 0, .ref 202, .int 99 0, .int 0 0, .ref 207, .int 101 0, .int 0 0, .ref 212, .int 104 0, .int 0 0, .ref 219, .int 109 0, .int 0 0, .ref 226, .int 114 0, .int 0 0, .ref 233, .int 116 0, .int 0 0, .ref 238, .int 125 0, .int 0 0, .ref 243, .int 128 0, .int 0 0, .ref 250, .int 132 0, .int 0 0, .ref 257, .int 138 0, .int 0 0, .ref 264, .int 145 0, .int 0 0, .ref 271, .int 147 0, .int 0 0, .ref 278, .int 149 0, .int 0 0, .ref 285, .int 155 0, .int 0 0, .ref 292, .int 157 0, .int 0 0, .ref 299, .int 165 0, .int 0 0, .ref 304, .int 172 0, .int 0 0, .ref 309, .int 192 0, .int 0 0, .ref 316, .int 199 0, .int 0 0, .ref 323, .int 207 0, .int 0 0, .ref 328]⟩, ⟨[]⟩⟩
noncomputable def fo_13 (_ : Params) : Obj := ⟨.type "code", none, .fields ⟨[.str ⟨⟨[60,109,111,100,117,108,101,62]⟩⟩ 182, .str ⟨⟨[60,109,111,100,117,108,101,62]⟩⟩ 183, .str ⟨⟨[47,99,108,97,105,109,47,99,117,116,46,112,121]⟩⟩ 184, .int 1 0, .int 0 0, .int 0 0, .int 0 0, .int 0 0, .ref 11, .bool false, .int 181 0, .ref 12, .none, .none, .none, .none, .int 185 0, .int 1 0, .str ⟨⟨[47,99,108,97,105,109,47,99,117,116,46,112,121]⟩⟩ 186]⟩, ⟨[]⟩⟩
noncomputable def fo_14 (_ : Params) : Obj := ⟨.type "frame", none, .plain, ⟨[some (.ref 13), some (.ref 3), some (.ref 3), none, some (.str ⟨⟨[95,95,109,97,105,110,95,95]⟩⟩ 164), none, some (.ref 0)]⟩⟩
noncomputable def fo_15 (_ : Params) : Obj := ⟨.type "tuple", none, .seq ⟨[.type "Exception"]⟩ 0, ⟨[]⟩⟩
noncomputable def fo_16 (_ : Params) : Obj := ⟨.type "builtin_function_or_method", none, .fields ⟨[.builtin "type.__prepare__", .type "type"]⟩, ⟨[]⟩⟩
noncomputable def fo_17 (P : Params) : Obj := ⟨.type "dict", none, .dict ⟨[entryAt P ⟨⟨[95,95,109,111,100,117,108,101,95,95]⟩⟩ 196 (.str ⟨⟨[99,97,115,46,101,114,114,111,114,115]⟩⟩ 187), entryAt P ⟨⟨[95,95,113,117,97,108,110,97,109,101,95,95]⟩⟩ 198 (.str ⟨⟨[67,97,115,70,97,105,108]⟩⟩ 197), entryAt P ⟨⟨[95,95,102,105,114,115,116,108,105,110,101,110,111,95,95]⟩⟩ 200 (.int 2 199), entryAt P ⟨⟨[95,95,105,110,105,116,95,95]⟩⟩ 209 (.ref 28), entryAt P ⟨⟨[95,95,115,116,97,116,105,99,95,97,116,116,114,105,98,117,116,101,115,95,95]⟩⟩ 212 (.ref 29)]⟩ 5, ⟨[]⟩⟩
noncomputable def fo_18 (_ : Params) : Obj := ⟨.type "tuple", none, .seq ⟨[]⟩ 0, ⟨[]⟩⟩
noncomputable def fo_19 (_ : Params) : Obj := ⟨.none, none, .fields ⟨[.int 4 0, .int 4 0, .ref 27]⟩, ⟨[]⟩⟩
noncomputable def fo_20 (_ : Params) : Obj := ⟨.type "code", none, .fields ⟨[.str ⟨⟨[67,97,115,70,97,105,108]⟩⟩ 191, .str ⟨⟨[67,97,115,70,97,105,108]⟩⟩ 192, .str ⟨⟨[47,99,108,97,105,109,47,99,117,116,46,112,121]⟩⟩ 193, .int 2 0, .int 0 0, .int 0 0, .int 0 0, .int 0 0, .ref 18, .bool false, .int 181 0, .ref 19, .none, .none, .none, .none, .int 194 0, .int 2 0, .str ⟨⟨[47,99,108,97,105,109,47,99,117,116,46,112,121]⟩⟩ 195]⟩, ⟨[]⟩⟩
noncomputable def fo_21 (_ : Params) : Obj := ⟨.type "frame", none, .plain, ⟨[some (.ref 20), some (.ref 3), some (.ref 17), none, some (.str ⟨⟨[99,97,115,46,101,114,114,111,114,115]⟩⟩ 187), none, some (.ref 0)]⟩⟩
noncomputable def fo_22 (_ : Params) : Obj := ⟨.type "tuple", none, .seq ⟨[]⟩ 0, ⟨[]⟩⟩
noncomputable def fo_23 (_ : Params) : Obj := ⟨.none, none, .fields ⟨[]⟩, ⟨[]⟩⟩
noncomputable def fo_24 (_ : Params) : Obj := ⟨.type "tuple", none, .seq ⟨[.str ⟨⟨[115,101,108,102]⟩⟩ 204, .str ⟨⟨[107,105,110,100]⟩⟩ 205, .str ⟨⟨[116,101,120,116]⟩⟩ 206]⟩ 0, ⟨[]⟩⟩
noncomputable def fo_25 (_ : Params) : Obj := ⟨.type "tuple", none, .seq ⟨[]⟩ 0, ⟨[]⟩⟩
noncomputable def fo_26 (_ : Params) : Obj := ⟨.none, none, .func (fT stI ⟨⟨[95,95,105,110,105,116,95,95]⟩⟩ ⟨⟨[67,97,115,70,97,105,108,46,95,95,105,110,105,116,95,95]⟩⟩ 0 (.none) (.none)), ⟨[]⟩⟩
noncomputable def fo_27 (_ : Params) : Obj := ⟨.type "code", none, .fields ⟨[.str ⟨⟨[95,95,105,110,105,116,95,95]⟩⟩ 201, .str ⟨⟨[67,97,115,70,97,105,108,46,95,95,105,110,105,116,95,95]⟩⟩ 202, .str ⟨⟨[47,99,108,97,105,109,47,99,117,116,46,112,121]⟩⟩ 203, .int 4 0, .int 3 0, .int 0 0, .int 0 0, .int 3 0, .ref 22, .bool true, .int 181 0, .ref 23, .none, .ref 24, .ref 25, .ref 26, .int 207 0, .int 4 0, .str ⟨⟨[47,99,108,97,105,109,47,99,117,116,46,112,121]⟩⟩ 208]⟩, ⟨[]⟩⟩
noncomputable def fo_28 (_ : Params) : Obj := ⟨.type "function", none, .func (fT stI ⟨⟨[95,95,105,110,105,116,95,95]⟩⟩ ⟨⟨[67,97,115,70,97,105,108,46,95,95,105,110,105,116,95,95]⟩⟩ 3 (.str ⟨⟨[99,97,115,46,101,114,114,111,114,115]⟩⟩ 187) (.ref 27)), ⟨[]⟩⟩
noncomputable def fo_29 (_ : Params) : Obj := ⟨.type "tuple", none, .seq ⟨[.str ⟨⟨[107,105,110,100]⟩⟩ 210, .str ⟨⟨[116,101,120,116]⟩⟩ 211]⟩ 0, ⟨[]⟩⟩
noncomputable def fo_30 (P : Params) : Obj := ⟨.type "dict", none, .dict ⟨[entryAt P ⟨⟨[95,95,109,111,100,117,108,101,95,95]⟩⟩ 196 (.str ⟨⟨[99,97,115,46,101,114,114,111,114,115]⟩⟩ 187), entryAt P ⟨⟨[95,95,102,105,114,115,116,108,105,110,101,110,111,95,95]⟩⟩ 200 (.int 2 199), entryAt P ⟨⟨[95,95,105,110,105,116,95,95]⟩⟩ 209 (.ref 28), entryAt P ⟨⟨[95,95,115,116,97,116,105,99,95,97,116,116,114,105,98,117,116,101,115,95,95]⟩⟩ 212 (.ref 29), entryAt P ⟨⟨[95,95,119,101,97,107,114,101,102,95,95]⟩⟩ 214 (.ref 32), entryAt P ⟨⟨[95,95,100,111,99,95,95]⟩⟩ 215 (.none)]⟩ 3, ⟨[]⟩⟩
noncomputable def fo_31 (_ : Params) : Obj := ⟨.type "type", none, .cls ⟨⟨⟨[67,97,115,70,97,105,108]⟩⟩, [.type "Exception"], [.ref 31, .type "Exception", .type "BaseException", .type "object"], 30, ⟨⟨[67,97,115,70,97,105,108]⟩⟩, true, [], [], false, none, false⟩, ⟨[some (.ref 15), none, some (.str ⟨⟨[67,97,115,70,97,105,108]⟩⟩ 189), some (.str ⟨⟨[67,97,115,70,97,105,108]⟩⟩ 197), some (.builtin "Exception.__new__"), some (.bool true)]⟩⟩
noncomputable def fo_32 (_ : Params) : Obj := ⟨.type "getset_descriptor", none, .fields ⟨[.str ⟨⟨[95,95,119,101,97,107,114,101,102,95,95]⟩⟩ 213, .ref 31, .builtin "ExceptionGroup.__weakref__", .none]⟩, ⟨[]⟩⟩
noncomputable def fo_33 (_ : Params) : Obj := ⟨.type "super", none, .fields ⟨[.ref 31, .ref 31, .ref 31]⟩, ⟨[]⟩⟩
noncomputable def fo_34 (_ : Params) : Obj := ⟨.type "builtin_function_or_method", none, .fields ⟨[.builtin "object.__init_subclass__", .ref 31]⟩, ⟨[]⟩⟩
noncomputable def fo_35 (_ : Params) : Obj := ⟨.type "tuple", none, .seq ⟨[]⟩ 0, ⟨[]⟩⟩
noncomputable def fo_36 (_ : Params) : Obj := ⟨.none, none, .fields ⟨[]⟩, ⟨[]⟩⟩
noncomputable def fo_37 (_ : Params) : Obj := ⟨.type "tuple", none, .seq ⟨[.str ⟨⟨[97]⟩⟩ 225, .str ⟨⟨[98]⟩⟩ 226]⟩ 0, ⟨[]⟩⟩
noncomputable def fo_38 (_ : Params) : Obj := ⟨.type "tuple", none, .seq ⟨[]⟩ 0, ⟨[]⟩⟩
noncomputable def fo_39 (_ : Params) : Obj := ⟨.none, none, .func (fT (stT 3) ⟨⟨[103,99,100]⟩⟩ ⟨⟨[103,99,100]⟩⟩ 0 (.none) (.none)), ⟨[]⟩⟩
noncomputable def fo_40 (_ : Params) : Obj := ⟨.type "code", none, .fields ⟨[.str ⟨⟨[103,99,100]⟩⟩ 222, .str ⟨⟨[103,99,100]⟩⟩ 223, .str ⟨⟨[47,99,108,97,105,109,47,99,117,116,46,112,121]⟩⟩ 224, .int 9 0, .int 2 0, .int 0 0, .int 0 0, .int 3 0, .ref 35, .bool true, .int 181 0, .ref 36, .none, .ref 37, .ref 38, .ref 39, .int 227 0, .int 9 0, .str ⟨⟨[47,99,108,97,105,109,47,99,117,116,46,112,121]⟩⟩ 228]⟩, ⟨[]⟩⟩
noncomputable def fo_41 (_ : Params) : Obj := ⟨.type "function", none, .func (fT (stT 3) ⟨⟨[103,99,100]⟩⟩ ⟨⟨[103,99,100]⟩⟩ 3 (.str ⟨⟨[99,97,115,46,105,110,116,115]⟩⟩ 220) (.ref 40)), ⟨[]⟩⟩
noncomputable def fo_42 (_ : Params) : Obj := ⟨.type "tuple", none, .seq ⟨[]⟩ 0, ⟨[]⟩⟩
noncomputable def fo_43 (_ : Params) : Obj := ⟨.none, none, .fields ⟨[]⟩, ⟨[]⟩⟩
noncomputable def fo_44 (_ : Params) : Obj := ⟨.type "tuple", none, .seq ⟨[.str ⟨⟨[110,117,109,98,101,114,115]⟩⟩ 233, .str ⟨⟨[102,111,117,110,100]⟩⟩ 234, .str ⟨⟨[110,117,109,98,101,114]⟩⟩ 235]⟩ 0, ⟨[]⟩⟩
noncomputable def fo_45 (_ : Params) : Obj := ⟨.type "tuple", none, .seq ⟨[]⟩ 0, ⟨[]⟩⟩
noncomputable def fo_46 (_ : Params) : Obj := ⟨.none, none, .func (fT (stT 4) ⟨⟨[103,99,100,95,97,108,108]⟩⟩ ⟨⟨[103,99,100,95,97,108,108]⟩⟩ 0 (.none) (.none)), ⟨[]⟩⟩
noncomputable def fo_47 (_ : Params) : Obj := ⟨.type "code", none, .fields ⟨[.str ⟨⟨[103,99,100,95,97,108,108]⟩⟩ 230, .str ⟨⟨[103,99,100,95,97,108,108]⟩⟩ 231, .str ⟨⟨[47,99,108,97,105,109,47,99,117,116,46,112,121]⟩⟩ 232, .int 14 0, .int 1 0, .int 0 0, .int 0 0, .int 3 0, .ref 42, .bool true, .int 181 0, .ref 43, .none, .ref 44, .ref 45, .ref 46, .int 236 0, .int 14 0, .str ⟨⟨[47,99,108,97,105,109,47,99,117,116,46,112,121]⟩⟩ 237]⟩, ⟨[]⟩⟩
noncomputable def fo_48 (_ : Params) : Obj := ⟨.type "function", none, .func (fT (stT 4) ⟨⟨[103,99,100,95,97,108,108]⟩⟩ ⟨⟨[103,99,100,95,97,108,108]⟩⟩ 3 (.str ⟨⟨[99,97,115,46,105,110,116,115]⟩⟩ 220) (.ref 47)), ⟨[]⟩⟩
noncomputable def fo_49 (_ : Params) : Obj := ⟨.type "tuple", none, .seq ⟨[.int 0 241, .int 1 242]⟩ 0, ⟨[]⟩⟩
noncomputable def fo_50 (_ : Params) : Obj := ⟨.type "tuple", none, .seq ⟨[.int 1 244, .int 1 245]⟩ 0, ⟨[]⟩⟩
noncomputable def fo_51 (_ : Params) : Obj := ⟨.type "tuple", none, .seq ⟨[]⟩ 0, ⟨[]⟩⟩
noncomputable def fo_52 (_ : Params) : Obj := ⟨.none, none, .fields ⟨[]⟩, ⟨[]⟩⟩
noncomputable def fo_53 (_ : Params) : Obj := ⟨.type "tuple", none, .seq ⟨[.str ⟨⟨[116,111,112]⟩⟩ 250, .str ⟨⟨[98,111,116,116,111,109]⟩⟩ 251, .str ⟨⟨[103]⟩⟩ 252]⟩ 0, ⟨[]⟩⟩
noncomputable def fo_54 (_ : Params) : Obj := ⟨.type "tuple", none, .seq ⟨[]⟩ 0, ⟨[]⟩⟩
noncomputable def fo_55 (_ : Params) : Obj := ⟨.none, none, .func (fT (stT 8) ⟨⟨[114,97,116]⟩⟩ ⟨⟨[114,97,116]⟩⟩ 0 (.none) (.none)), ⟨[]⟩⟩
noncomputable def fo_56 (_ : Params) : Obj := ⟨.type "code", none, .fields ⟨[.str ⟨⟨[114,97,116]⟩⟩ 247, .str ⟨⟨[114,97,116]⟩⟩ 248, .str ⟨⟨[47,99,108,97,105,109,47,99,117,116,46,112,121]⟩⟩ 249, .int 22 0, .int 2 0, .int 0 0, .int 0 0, .int 3 0, .ref 51, .bool true, .int 181 0, .ref 52, .none, .ref 53, .ref 54, .ref 55, .int 253 0, .int 22 0, .str ⟨⟨[47,99,108,97,105,109,47,99,117,116,46,112,121]⟩⟩ 254]⟩, ⟨[]⟩⟩
noncomputable def fo_57 (_ : Params) : Obj := ⟨.type "function", none, .func (fT (stT 8) ⟨⟨[114,97,116]⟩⟩ ⟨⟨[114,97,116]⟩⟩ 3 (.str ⟨⟨[99,97,115,46,114,97,116,115]⟩⟩ 239) (.ref 56)), ⟨[]⟩⟩
noncomputable def fo_58 (_ : Params) : Obj := ⟨.type "tuple", none, .seq ⟨[]⟩ 0, ⟨[]⟩⟩
noncomputable def fo_59 (_ : Params) : Obj := ⟨.none, none, .fields ⟨[]⟩, ⟨[]⟩⟩
noncomputable def fo_60 (_ : Params) : Obj := ⟨.type "tuple", none, .seq ⟨[.str ⟨⟨[97]⟩⟩ 259, .str ⟨⟨[98]⟩⟩ 260]⟩ 0, ⟨[]⟩⟩
noncomputable def fo_61 (_ : Params) : Obj := ⟨.type "tuple", none, .seq ⟨[]⟩ 0, ⟨[]⟩⟩
noncomputable def fo_62 (_ : Params) : Obj := ⟨.none, none, .func (fT (stT 9) ⟨⟨[114,97,100,100]⟩⟩ ⟨⟨[114,97,100,100]⟩⟩ 0 (.none) (.none)), ⟨[]⟩⟩
noncomputable def fo_63 (_ : Params) : Obj := ⟨.type "code", none, .fields ⟨[.str ⟨⟨[114,97,100,100]⟩⟩ 256, .str ⟨⟨[114,97,100,100]⟩⟩ 257, .str ⟨⟨[47,99,108,97,105,109,47,99,117,116,46,112,121]⟩⟩ 258, .int 27 0, .int 2 0, .int 0 0, .int 0 0, .int 3 0, .ref 58, .bool true, .int 181 0, .ref 59, .none, .ref 60, .ref 61, .ref 62, .int 261 0, .int 27 0, .str ⟨⟨[47,99,108,97,105,109,47,99,117,116,46,112,121]⟩⟩ 262]⟩, ⟨[]⟩⟩
noncomputable def fo_64 (_ : Params) : Obj := ⟨.type "function", none, .func (fT (stT 9) ⟨⟨[114,97,100,100]⟩⟩ ⟨⟨[114,97,100,100]⟩⟩ 3 (.str ⟨⟨[99,97,115,46,114,97,116,115]⟩⟩ 239) (.ref 63)), ⟨[]⟩⟩
noncomputable def fo_65 (_ : Params) : Obj := ⟨.type "tuple", none, .seq ⟨[]⟩ 0, ⟨[]⟩⟩
noncomputable def fo_66 (_ : Params) : Obj := ⟨.none, none, .fields ⟨[]⟩, ⟨[]⟩⟩
noncomputable def fo_67 (_ : Params) : Obj := ⟨.type "tuple", none, .seq ⟨[.str ⟨⟨[97]⟩⟩ 267, .str ⟨⟨[98]⟩⟩ 268]⟩ 0, ⟨[]⟩⟩
noncomputable def fo_68 (_ : Params) : Obj := ⟨.type "tuple", none, .seq ⟨[]⟩ 0, ⟨[]⟩⟩
noncomputable def fo_69 (_ : Params) : Obj := ⟨.none, none, .func (fT (stT 10) ⟨⟨[114,115,117,98]⟩⟩ ⟨⟨[114,115,117,98]⟩⟩ 0 (.none) (.none)), ⟨[]⟩⟩
noncomputable def fo_70 (_ : Params) : Obj := ⟨.type "code", none, .fields ⟨[.str ⟨⟨[114,115,117,98]⟩⟩ 264, .str ⟨⟨[114,115,117,98]⟩⟩ 265, .str ⟨⟨[47,99,108,97,105,109,47,99,117,116,46,112,121]⟩⟩ 266, .int 29 0, .int 2 0, .int 0 0, .int 0 0, .int 3 0, .ref 65, .bool true, .int 181 0, .ref 66, .none, .ref 67, .ref 68, .ref 69, .int 269 0, .int 29 0, .str ⟨⟨[47,99,108,97,105,109,47,99,117,116,46,112,121]⟩⟩ 270]⟩, ⟨[]⟩⟩
noncomputable def fo_71 (_ : Params) : Obj := ⟨.type "function", none, .func (fT (stT 10) ⟨⟨[114,115,117,98]⟩⟩ ⟨⟨[114,115,117,98]⟩⟩ 3 (.str ⟨⟨[99,97,115,46,114,97,116,115]⟩⟩ 239) (.ref 70)), ⟨[]⟩⟩
noncomputable def fo_72 (_ : Params) : Obj := ⟨.type "tuple", none, .seq ⟨[]⟩ 0, ⟨[]⟩⟩
noncomputable def fo_73 (_ : Params) : Obj := ⟨.none, none, .fields ⟨[]⟩, ⟨[]⟩⟩
noncomputable def fo_74 (_ : Params) : Obj := ⟨.type "tuple", none, .seq ⟨[.str ⟨⟨[97]⟩⟩ 275, .str ⟨⟨[98]⟩⟩ 276]⟩ 0, ⟨[]⟩⟩
noncomputable def fo_75 (_ : Params) : Obj := ⟨.type "tuple", none, .seq ⟨[]⟩ 0, ⟨[]⟩⟩
noncomputable def fo_76 (_ : Params) : Obj := ⟨.none, none, .func (fT (stT 11) ⟨⟨[114,109,117,108]⟩⟩ ⟨⟨[114,109,117,108]⟩⟩ 0 (.none) (.none)), ⟨[]⟩⟩
noncomputable def fo_77 (_ : Params) : Obj := ⟨.type "code", none, .fields ⟨[.str ⟨⟨[114,109,117,108]⟩⟩ 272, .str ⟨⟨[114,109,117,108]⟩⟩ 273, .str ⟨⟨[47,99,108,97,105,109,47,99,117,116,46,112,121]⟩⟩ 274, .int 31 0, .int 2 0, .int 0 0, .int 0 0, .int 3 0, .ref 72, .bool true, .int 181 0, .ref 73, .none, .ref 74, .ref 75, .ref 76, .int 277 0, .int 31 0, .str ⟨⟨[47,99,108,97,105,109,47,99,117,116,46,112,121]⟩⟩ 278]⟩, ⟨[]⟩⟩
noncomputable def fo_78 (_ : Params) : Obj := ⟨.type "function", none, .func (fT (stT 11) ⟨⟨[114,109,117,108]⟩⟩ ⟨⟨[114,109,117,108]⟩⟩ 3 (.str ⟨⟨[99,97,115,46,114,97,116,115]⟩⟩ 239) (.ref 77)), ⟨[]⟩⟩
noncomputable def fo_79 (_ : Params) : Obj := ⟨.type "tuple", none, .seq ⟨[]⟩ 0, ⟨[]⟩⟩
noncomputable def fo_80 (_ : Params) : Obj := ⟨.none, none, .fields ⟨[]⟩, ⟨[]⟩⟩
noncomputable def fo_81 (_ : Params) : Obj := ⟨.type "tuple", none, .seq ⟨[.str ⟨⟨[97]⟩⟩ 283, .str ⟨⟨[98]⟩⟩ 284]⟩ 0, ⟨[]⟩⟩
noncomputable def fo_82 (_ : Params) : Obj := ⟨.type "tuple", none, .seq ⟨[]⟩ 0, ⟨[]⟩⟩
noncomputable def fo_83 (_ : Params) : Obj := ⟨.none, none, .func (fT (stT 12) ⟨⟨[114,100,105,118]⟩⟩ ⟨⟨[114,100,105,118]⟩⟩ 0 (.none) (.none)), ⟨[]⟩⟩
noncomputable def fo_84 (_ : Params) : Obj := ⟨.type "code", none, .fields ⟨[.str ⟨⟨[114,100,105,118]⟩⟩ 280, .str ⟨⟨[114,100,105,118]⟩⟩ 281, .str ⟨⟨[47,99,108,97,105,109,47,99,117,116,46,112,121]⟩⟩ 282, .int 33 0, .int 2 0, .int 0 0, .int 0 0, .int 3 0, .ref 79, .bool true, .int 181 0, .ref 80, .none, .ref 81, .ref 82, .ref 83, .int 285 0, .int 33 0, .str ⟨⟨[47,99,108,97,105,109,47,99,117,116,46,112,121]⟩⟩ 286]⟩, ⟨[]⟩⟩
noncomputable def fo_85 (_ : Params) : Obj := ⟨.type "function", none, .func (fT (stT 12) ⟨⟨[114,100,105,118]⟩⟩ ⟨⟨[114,100,105,118]⟩⟩ 3 (.str ⟨⟨[99,97,115,46,114,97,116,115]⟩⟩ 239) (.ref 84)), ⟨[]⟩⟩
noncomputable def fo_86 (_ : Params) : Obj := ⟨.type "tuple", none, .seq ⟨[]⟩ 0, ⟨[]⟩⟩
noncomputable def fo_87 (_ : Params) : Obj := ⟨.none, none, .fields ⟨[]⟩, ⟨[]⟩⟩
noncomputable def fo_88 (_ : Params) : Obj := ⟨.type "tuple", none, .seq ⟨[.str ⟨⟨[97]⟩⟩ 291]⟩ 0, ⟨[]⟩⟩
noncomputable def fo_89 (_ : Params) : Obj := ⟨.type "tuple", none, .seq ⟨[]⟩ 0, ⟨[]⟩⟩
noncomputable def fo_90 (_ : Params) : Obj := ⟨.none, none, .func (fT (stT 13) ⟨⟨[114,110,101,103]⟩⟩ ⟨⟨[114,110,101,103]⟩⟩ 0 (.none) (.none)), ⟨[]⟩⟩
noncomputable def fo_91 (_ : Params) : Obj := ⟨.type "code", none, .fields ⟨[.str ⟨⟨[114,110,101,103]⟩⟩ 288, .str ⟨⟨[114,110,101,103]⟩⟩ 289, .str ⟨⟨[47,99,108,97,105,109,47,99,117,116,46,112,121]⟩⟩ 290, .int 35 0, .int 1 0, .int 0 0, .int 0 0, .int 3 0, .ref 86, .bool true, .int 181 0, .ref 87, .none, .ref 88, .ref 89, .ref 90, .int 292 0, .int 35 0, .str ⟨⟨[47,99,108,97,105,109,47,99,117,116,46,112,121]⟩⟩ 293]⟩, ⟨[]⟩⟩
noncomputable def fo_92 (_ : Params) : Obj := ⟨.type "function", none, .func (fT (stT 13) ⟨⟨[114,110,101,103]⟩⟩ ⟨⟨[114,110,101,103]⟩⟩ 3 (.str ⟨⟨[99,97,115,46,114,97,116,115]⟩⟩ 239) (.ref 91)), ⟨[]⟩⟩
noncomputable def fo_93 (_ : Params) : Obj := ⟨.type "tuple", none, .seq ⟨[]⟩ 0, ⟨[]⟩⟩
noncomputable def fo_94 (_ : Params) : Obj := ⟨.none, none, .fields ⟨[]⟩, ⟨[]⟩⟩
noncomputable def fo_95 (_ : Params) : Obj := ⟨.type "tuple", none, .seq ⟨[.str ⟨⟨[97]⟩⟩ 298]⟩ 0, ⟨[]⟩⟩
noncomputable def fo_96 (_ : Params) : Obj := ⟨.type "tuple", none, .seq ⟨[]⟩ 0, ⟨[]⟩⟩
noncomputable def fo_97 (_ : Params) : Obj := ⟨.none, none, .func (fT (stT 14) ⟨⟨[114,105,110,118]⟩⟩ ⟨⟨[114,105,110,118]⟩⟩ 0 (.none) (.none)), ⟨[]⟩⟩
noncomputable def fo_98 (_ : Params) : Obj := ⟨.type "code", none, .fields ⟨[.str ⟨⟨[114,105,110,118]⟩⟩ 295, .str ⟨⟨[114,105,110,118]⟩⟩ 296, .str ⟨⟨[47,99,108,97,105,109,47,99,117,116,46,112,121]⟩⟩ 297, .int 37 0, .int 1 0, .int 0 0, .int 0 0, .int 3 0, .ref 93, .bool true, .int 181 0, .ref 94, .none, .ref 95, .ref 96, .ref 97, .int 299 0, .int 37 0, .str ⟨⟨[47,99,108,97,105,109,47,99,117,116,46,112,121]⟩⟩ 300]⟩, ⟨[]⟩⟩
noncomputable def fo_99 (_ : Params) : Obj := ⟨.type "function", none, .func (fT (stT 14) ⟨⟨[114,105,110,118]⟩⟩ ⟨⟨[114,105,110,118]⟩⟩ 3 (.str ⟨⟨[99,97,115,46,114,97,116,115]⟩⟩ 239) (.ref 98)), ⟨[]⟩⟩
noncomputable def fo_100 (_ : Params) : Obj := ⟨.type "tuple", none, .seq ⟨[]⟩ 0, ⟨[]⟩⟩
noncomputable def fo_101 (_ : Params) : Obj := ⟨.none, none, .fields ⟨[]⟩, ⟨[]⟩⟩
noncomputable def fo_102 (_ : Params) : Obj := ⟨.type "tuple", none, .seq ⟨[.str ⟨⟨[112]⟩⟩ 307]⟩ 0, ⟨[]⟩⟩
noncomputable def fo_103 (_ : Params) : Obj := ⟨.type "tuple", none, .seq ⟨[]⟩ 0, ⟨[]⟩⟩
noncomputable def fo_104 (_ : Params) : Obj := ⟨.none, none, .func (fT (stT 16) ⟨⟨[122,99,111,110,116,101,110,116]⟩⟩ ⟨⟨[122,99,111,110,116,101,110,116]⟩⟩ 0 (.none) (.none)), ⟨[]⟩⟩
noncomputable def fo_105 (_ : Params) : Obj := ⟨.type "code", none, .fields ⟨[.str ⟨⟨[122,99,111,110,116,101,110,116]⟩⟩ 304, .str ⟨⟨[122,99,111,110,116,101,110,116]⟩⟩ 305, .str ⟨⟨[47,99,108,97,105,109,47,99,117,116,46,112,121]⟩⟩ 306, .int 40 0, .int 1 0, .int 0 0, .int 0 0, .int 3 0, .ref 100, .bool true, .int 181 0, .ref 101, .none, .ref 102, .ref 103, .ref 104, .int 308 0, .int 40 0, .str ⟨⟨[47,99,108,97,105,109,47,99,117,116,46,112,121]⟩⟩ 309]⟩, ⟨[]⟩⟩
noncomputable def fo_106 (_ : Params) : Obj := ⟨.type "function", none, .func (fT (stT 16) ⟨⟨[122,99,111,110,116,101,110,116]⟩⟩ ⟨⟨[122,99,111,110,116,101,110,116]⟩⟩ 3 (.str ⟨⟨[99,97,115,46,122,112,111,108,121]⟩⟩ 302) (.ref 105)), ⟨[]⟩⟩
noncomputable def fo_107 (_ : Params) : Obj := ⟨.type "tuple", none, .seq ⟨[]⟩ 0, ⟨[]⟩⟩
noncomputable def fo_108 (_ : Params) : Obj := ⟨.none, none, .fields ⟨[]⟩, ⟨[]⟩⟩
noncomputable def fo_109 (_ : Params) : Obj := ⟨.none, none, .func (fT (stT 17) ⟨⟨[122,100,105,118,105,100,101,100]⟩⟩ ⟨⟨[122,100,105,118,105,100,101,100]⟩⟩ 0 (.none) (.none)), ⟨[]⟩⟩
noncomputable def fo_110 (_ : Params) : Obj := ⟨.type "code", none, .fields ⟨[.str ⟨⟨[122,100,105,118,105,100,101,100]⟩⟩ 311, .str ⟨⟨[122,100,105,118,105,100,101,100]⟩⟩ 312, .str ⟨⟨[47,99,108,97,105,109,47,99,117,116,46,112,121]⟩⟩ 313, .int 42 0, .int 2 0, .int 0 0, .int 0 0, .int 3 0, .ref 107, .bool true, .int 181 0, .ref 108, .none, .none, .none, .ref 109, .int 314 0, .int 42 0, .str ⟨⟨[47,99,108,97,105,109,47,99,117,116,46,112,121]⟩⟩ 315]⟩, ⟨[]⟩⟩
noncomputable def fo_111 (_ : Params) : Obj := ⟨.type "function", none, .func (fT (stT 17) ⟨⟨[122,100,105,118,105,100,101,100]⟩⟩ ⟨⟨[122,100,105,118,105,100,101,100]⟩⟩ 3 (.str ⟨⟨[99,97,115,46,122,112,111,108,121]⟩⟩ 302) (.ref 110)), ⟨[]⟩⟩
noncomputable def fo_112 (_ : Params) : Obj := ⟨.type "tuple", none, .seq ⟨[]⟩ 0, ⟨[]⟩⟩
noncomputable def fo_113 (_ : Params) : Obj := ⟨.none, none, .fields ⟨[]⟩, ⟨[]⟩⟩
noncomputable def fo_114 (_ : Params) : Obj := ⟨.type "tuple", none, .seq ⟨[.str ⟨⟨[112]⟩⟩ 320, .str ⟨⟨[99,111,110,116,101,110,116]⟩⟩ 321]⟩ 0, ⟨[]⟩⟩
noncomputable def fo_115 (_ : Params) : Obj := ⟨.type "tuple", none, .seq ⟨[]⟩ 0, ⟨[]⟩⟩
noncomputable def fo_116 (_ : Params) : Obj := ⟨.none, none, .func (fT (stT 18) ⟨⟨[122,112,114,105,109,105,116,105,118,101]⟩⟩ ⟨⟨[122,112,114,105,109,105,116,105,118,101]⟩⟩ 0 (.none) (.none)), ⟨[]⟩⟩
noncomputable def fo_117 (_ : Params) : Obj := ⟨.type "code", none, .fields ⟨[.str ⟨⟨[122,112,114,105,109,105,116,105,118,101]⟩⟩ 317, .str ⟨⟨[122,112,114,105,109,105,116,105,118,101]⟩⟩ 318, .str ⟨⟨[47,99,108,97,105,109,47,99,117,116,46,112,121]⟩⟩ 319, .int 44 0, .int 1 0, .int 0 0, .int 0 0, .int 3 0, .ref 112, .bool true, .int 181 0, .ref 113, .none, .ref 114, .ref 115, .ref 116, .int 322 0, .int 44 0, .str ⟨⟨[47,99,108,97,105,109,47,99,117,116,46,112,121]⟩⟩ 323]⟩, ⟨[]⟩⟩
noncomputable def fo_118 (_ : Params) : Obj := ⟨.type "function", none, .func (fT (stT 18) ⟨⟨[122,112,114,105,109,105,116,105,118,101]⟩⟩ ⟨⟨[122,112,114,105,109,105,116,105,118,101]⟩⟩ 3 (.str ⟨⟨[99,97,115,46,122,112,111,108,121]⟩⟩ 302) (.ref 117)), ⟨[]⟩⟩
noncomputable def fo_119 (_ : Params) : Obj := ⟨.type "tuple", none, .seq ⟨[]⟩ 0, ⟨[]⟩⟩
noncomputable def fo_120 (_ : Params) : Obj := ⟨.none, none, .fields ⟨[]⟩, ⟨[]⟩⟩
noncomputable def fo_121 (_ : Params) : Obj := ⟨.type "tuple", none, .seq ⟨[.str ⟨⟨[114,111,119]⟩⟩ 330, .str ⟨⟨[115,105,122,101]⟩⟩ 331]⟩ 0, ⟨[]⟩⟩
noncomputable def fo_122 (_ : Params) : Obj := ⟨.type "tuple", none, .seq ⟨[]⟩ 0, ⟨[]⟩⟩
noncomputable def fo_123 (_ : Params) : Obj := ⟨.none, none, .func (fT (stT 20) ⟨⟨[113,116,114,105,109]⟩⟩ ⟨⟨[113,116,114,105,109]⟩⟩ 0 (.none) (.none)), ⟨[]⟩⟩
noncomputable def fo_124 (_ : Params) : Obj := ⟨.type "code", none, .fields ⟨[.str ⟨⟨[113,116,114,105,109]⟩⟩ 327, .str ⟨⟨[113,116,114,105,109]⟩⟩ 328, .str ⟨⟨[47,99,108,97,105,109,47,99,117,116,46,112,121]⟩⟩ 329, .int 50 0, .int 1 0, .int 0 0, .int 0 0, .int 3 0, .ref 119, .bool true, .int 181 0, .ref 120, .none, .ref 121, .ref 122, .ref 123, .int 332 0, .int 50 0, .str ⟨⟨[47,99,108,97,105,109,47,99,117,116,46,112,121]⟩⟩ 333]⟩, ⟨[]⟩⟩
noncomputable def fo_125 (_ : Params) : Obj := ⟨.type "function", none, .func (fT (stT 20) ⟨⟨[113,116,114,105,109]⟩⟩ ⟨⟨[113,116,114,105,109]⟩⟩ 3 (.str ⟨⟨[99,97,115,46,113,112,111,108,121]⟩⟩ 325) (.ref 124)), ⟨[]⟩⟩
noncomputable def fo_126 (_ : Params) : Obj := ⟨.type "tuple", none, .seq ⟨[]⟩ 0, ⟨[]⟩⟩
noncomputable def fo_127 (_ : Params) : Obj := ⟨.none, none, .fields ⟨[]⟩, ⟨[]⟩⟩
noncomputable def fo_128 (_ : Params) : Obj := ⟨.type "tuple", none, .seq ⟨[.str ⟨⟨[112]⟩⟩ 338]⟩ 0, ⟨[]⟩⟩
noncomputable def fo_129 (_ : Params) : Obj := ⟨.type "tuple", none, .seq ⟨[]⟩ 0, ⟨[]⟩⟩
noncomputable def fo_130 (_ : Params) : Obj := ⟨.none, none, .func (fT (stT 21) ⟨⟨[113,100,101,103,114,101,101]⟩⟩ ⟨⟨[113,100,101,103,114,101,101]⟩⟩ 0 (.none) (.none)), ⟨[]⟩⟩
noncomputable def fo_131 (_ : Params) : Obj := ⟨.type "code", none, .fields ⟨[.str ⟨⟨[113,100,101,103,114,101,101]⟩⟩ 335, .str ⟨⟨[113,100,101,103,114,101,101]⟩⟩ 336, .str ⟨⟨[47,99,108,97,105,109,47,99,117,116,46,112,121]⟩⟩ 337, .int 55 0, .int 1 0, .int 0 0, .int 0 0, .int 3 0, .ref 126, .bool true, .int 181 0, .ref 127, .none, .ref 128, .ref 129, .ref 130, .int 339 0, .int 55 0, .str ⟨⟨[47,99,108,97,105,109,47,99,117,116,46,112,121]⟩⟩ 340]⟩, ⟨[]⟩⟩
noncomputable def fo_132 (_ : Params) : Obj := ⟨.type "function", none, .func (fT (stT 21) ⟨⟨[113,100,101,103,114,101,101]⟩⟩ ⟨⟨[113,100,101,103,114,101,101]⟩⟩ 3 (.str ⟨⟨[99,97,115,46,113,112,111,108,121]⟩⟩ 325) (.ref 131)), ⟨[]⟩⟩
noncomputable def fo_133 (_ : Params) : Obj := ⟨.type "tuple", none, .seq ⟨[]⟩ 0, ⟨[]⟩⟩
noncomputable def fo_134 (_ : Params) : Obj := ⟨.none, none, .fields ⟨[]⟩, ⟨[]⟩⟩
noncomputable def fo_135 (_ : Params) : Obj := ⟨.type "tuple", none, .seq ⟨[.str ⟨⟨[112]⟩⟩ 345]⟩ 0, ⟨[]⟩⟩
noncomputable def fo_136 (_ : Params) : Obj := ⟨.type "tuple", none, .seq ⟨[]⟩ 0, ⟨[]⟩⟩
noncomputable def fo_137 (_ : Params) : Obj := ⟨.none, none, .func (fT (stT 22) ⟨⟨[113,108,101,97,100]⟩⟩ ⟨⟨[113,108,101,97,100]⟩⟩ 0 (.none) (.none)), ⟨[]⟩⟩
noncomputable def fo_138 (_ : Params) : Obj := ⟨.type "code", none, .fields ⟨[.str ⟨⟨[113,108,101,97,100]⟩⟩ 342, .str ⟨⟨[113,108,101,97,100]⟩⟩ 343, .str ⟨⟨[47,99,108,97,105,109,47,99,117,116,46,112,121]⟩⟩ 344, .int 57 0, .int 1 0, .int 0 0, .int 0 0, .int 3 0, .ref 133, .bool true, .int 181 0, .ref 134, .none, .ref 135, .ref 136, .ref 137, .int 346 0, .int 57 0, .str ⟨⟨[47,99,108,97,105,109,47,99,117,116,46,112,121]⟩⟩ 347]⟩, ⟨[]⟩⟩
noncomputable def fo_139 (_ : Params) : Obj := ⟨.type "function", none, .func (fT (stT 22) ⟨⟨[113,108,101,97,100]⟩⟩ ⟨⟨[113,108,101,97,100]⟩⟩ 3 (.str ⟨⟨[99,97,115,46,113,112,111,108,121]⟩⟩ 325) (.ref 138)), ⟨[]⟩⟩
noncomputable def fo_140 (_ : Params) : Obj := ⟨.type "tuple", none, .seq ⟨[]⟩ 0, ⟨[]⟩⟩
noncomputable def fo_141 (_ : Params) : Obj := ⟨.none, none, .fields ⟨[]⟩, ⟨[]⟩⟩
noncomputable def fo_142 (_ : Params) : Obj := ⟨.none, none, .func (fT (stT 23) ⟨⟨[113,97,100,100]⟩⟩ ⟨⟨[113,97,100,100]⟩⟩ 0 (.none) (.none)), ⟨[]⟩⟩
noncomputable def fo_143 (_ : Params) : Obj := ⟨.type "code", none, .fields ⟨[.str ⟨⟨[113,97,100,100]⟩⟩ 349, .str ⟨⟨[113,97,100,100]⟩⟩ 350, .str ⟨⟨[47,99,108,97,105,109,47,99,117,116,46,112,121]⟩⟩ 351, .int 59 0, .int 2 0, .int 0 0, .int 0 0, .int 3 0, .ref 140, .bool true, .int 181 0, .ref 141, .none, .none, .none, .ref 142, .int 352 0, .int 59 0, .str ⟨⟨[47,99,108,97,105,109,47,99,117,116,46,112,121]⟩⟩ 353]⟩, ⟨[]⟩⟩
noncomputable def fo_144 (_ : Params) : Obj := ⟨.type "function", none, .func (fT (stT 23) ⟨⟨[113,97,100,100]⟩⟩ ⟨⟨[113,97,100,100]⟩⟩ 3 (.str ⟨⟨[99,97,115,46,113,112,111,108,121]⟩⟩ 325) (.ref 143)), ⟨[]⟩⟩
noncomputable def fo_145 (_ : Params) : Obj := ⟨.type "tuple", none, .seq ⟨[]⟩ 0, ⟨[]⟩⟩
noncomputable def fo_146 (_ : Params) : Obj := ⟨.none, none, .fields ⟨[]⟩, ⟨[]⟩⟩
noncomputable def fo_147 (_ : Params) : Obj := ⟨.none, none, .func (fT (stT 24) ⟨⟨[113,110,101,103]⟩⟩ ⟨⟨[113,110,101,103]⟩⟩ 0 (.none) (.none)), ⟨[]⟩⟩
noncomputable def fo_148 (_ : Params) : Obj := ⟨.type "code", none, .fields ⟨[.str ⟨⟨[113,110,101,103]⟩⟩ 355, .str ⟨⟨[113,110,101,103]⟩⟩ 356, .str ⟨⟨[47,99,108,97,105,109,47,99,117,116,46,112,121]⟩⟩ 357, .int 62 0, .int 1 0, .int 0 0, .int 0 0, .int 3 0, .ref 145, .bool true, .int 181 0, .ref 146, .none, .none, .none, .ref 147, .int 358 0, .int 62 0, .str ⟨⟨[47,99,108,97,105,109,47,99,117,116,46,112,121]⟩⟩ 359]⟩, ⟨[]⟩⟩
noncomputable def fo_149 (_ : Params) : Obj := ⟨.type "function", none, .func (fT (stT 24) ⟨⟨[113,110,101,103]⟩⟩ ⟨⟨[113,110,101,103]⟩⟩ 3 (.str ⟨⟨[99,97,115,46,113,112,111,108,121]⟩⟩ 325) (.ref 148)), ⟨[]⟩⟩
noncomputable def fo_150 (_ : Params) : Obj := ⟨.type "tuple", none, .seq ⟨[]⟩ 0, ⟨[]⟩⟩
noncomputable def fo_151 (_ : Params) : Obj := ⟨.none, none, .fields ⟨[]⟩, ⟨[]⟩⟩
noncomputable def fo_152 (_ : Params) : Obj := ⟨.type "tuple", none, .seq ⟨[.str ⟨⟨[97]⟩⟩ 364, .str ⟨⟨[98]⟩⟩ 365]⟩ 0, ⟨[]⟩⟩
noncomputable def fo_153 (_ : Params) : Obj := ⟨.type "tuple", none, .seq ⟨[]⟩ 0, ⟨[]⟩⟩
noncomputable def fo_154 (_ : Params) : Obj := ⟨.none, none, .func (fT (stT 25) ⟨⟨[113,115,117,98]⟩⟩ ⟨⟨[113,115,117,98]⟩⟩ 0 (.none) (.none)), ⟨[]⟩⟩
noncomputable def fo_155 (_ : Params) : Obj := ⟨.type "code", none, .fields ⟨[.str ⟨⟨[113,115,117,98]⟩⟩ 361, .str ⟨⟨[113,115,117,98]⟩⟩ 362, .str ⟨⟨[47,99,108,97,105,109,47,99,117,116,46,112,121]⟩⟩ 363, .int 64 0, .int 2 0, .int 0 0, .int 0 0, .int 3 0, .ref 150, .bool true, .int 181 0, .ref 151, .none, .ref 152, .ref 153, .ref 154, .int 366 0, .int 64 0, .str ⟨⟨[47,99,108,97,105,109,47,99,117,116,46,112,121]⟩⟩ 367]⟩, ⟨[]⟩⟩
noncomputable def fo_156 (_ : Params) : Obj := ⟨.type "function", none, .func (fT (stT 25) ⟨⟨[113,115,117,98]⟩⟩ ⟨⟨[113,115,117,98]⟩⟩ 3 (.str ⟨⟨[99,97,115,46,113,112,111,108,121]⟩⟩ 325) (.ref 155)), ⟨[]⟩⟩
noncomputable def fo_157 (_ : Params) : Obj := ⟨.type "tuple", none, .seq ⟨[]⟩ 0, ⟨[]⟩⟩
noncomputable def fo_158 (_ : Params) : Obj := ⟨.none, none, .fields ⟨[]⟩, ⟨[]⟩⟩
noncomputable def fo_159 (_ : Params) : Obj := ⟨.none, none, .func (fT (stT 26) ⟨⟨[113,115,99,97,108,101]⟩⟩ ⟨⟨[113,115,99,97,108,101]⟩⟩ 0 (.none) (.none)), ⟨[]⟩⟩
noncomputable def fo_160 (_ : Params) : Obj := ⟨.type "code", none, .fields ⟨[.str ⟨⟨[113,115,99,97,108,101]⟩⟩ 369, .str ⟨⟨[113,115,99,97,108,101]⟩⟩ 370, .str ⟨⟨[47,99,108,97,105,109,47,99,117,116,46,112,121]⟩⟩ 371, .int 66 0, .int 2 0, .int 0 0, .int 0 0, .int 3 0, .ref 157, .bool true, .int 181 0, .ref 158, .none, .none, .none, .ref 159, .int 372 0, .int 66 0, .str ⟨⟨[47,99,108,97,105,109,47,99,117,116,46,112,121]⟩⟩ 373]⟩, ⟨[]⟩⟩
noncomputable def fo_161 (_ : Params) : Obj := ⟨.type "function", none, .func (fT (stT 26) ⟨⟨[113,115,99,97,108,101]⟩⟩ ⟨⟨[113,115,99,97,108,101]⟩⟩ 3 (.str ⟨⟨[99,97,115,46,113,112,111,108,121]⟩⟩ 325) (.ref 160)), ⟨[]⟩⟩
noncomputable def fo_162 (_ : Params) : Obj := ⟨.type "tuple", none, .seq ⟨[]⟩ 0, ⟨[]⟩⟩
noncomputable def fo_163 (_ : Params) : Obj := ⟨.none, none, .fields ⟨[]⟩, ⟨[]⟩⟩
noncomputable def fo_164 (_ : Params) : Obj := ⟨.type "tuple", none, .seq ⟨[.str ⟨⟨[112]⟩⟩ 378, .str ⟨⟨[109,97,110,121]⟩⟩ 379]⟩ 0, ⟨[]⟩⟩
noncomputable def fo_165 (_ : Params) : Obj := ⟨.type "tuple", none, .seq ⟨[]⟩ 0, ⟨[]⟩⟩
noncomputable def fo_166 (_ : Params) : Obj := ⟨.none, none, .func (fT (stT 27) ⟨⟨[113,114,97,105,115,101]⟩⟩ ⟨⟨[113,114,97,105,115,101]⟩⟩ 0 (.none) (.none)), ⟨[]⟩⟩
noncomputable def fo_167 (_ : Params) : Obj := ⟨.type "code", none, .fields ⟨[.str ⟨⟨[113,114,97,105,115,101]⟩⟩ 375, .str ⟨⟨[113,114,97,105,115,101]⟩⟩ 376, .str ⟨⟨[47,99,108,97,105,109,47,99,117,116,46,112,121]⟩⟩ 377, .int 68 0, .int 2 0, .int 0 0, .int 0 0, .int 3 0, .ref 162, .bool true, .int 181 0, .ref 163, .none, .ref 164, .ref 165, .ref 166, .int 380 0, .int 68 0, .str ⟨⟨[47,99,108,97,105,109,47,99,117,116,46,112,121]⟩⟩ 381]⟩, ⟨[]⟩⟩
noncomputable def fo_168 (_ : Params) : Obj := ⟨.type "function", none, .func (fT (stT 27) ⟨⟨[113,114,97,105,115,101]⟩⟩ ⟨⟨[113,114,97,105,115,101]⟩⟩ 3 (.str ⟨⟨[99,97,115,46,113,112,111,108,121]⟩⟩ 325) (.ref 167)), ⟨[]⟩⟩
noncomputable def fo_169 (_ : Params) : Obj := ⟨.type "tuple", none, .seq ⟨[]⟩ 0, ⟨[]⟩⟩
noncomputable def fo_170 (_ : Params) : Obj := ⟨.none, none, .fields ⟨[]⟩, ⟨[]⟩⟩
noncomputable def fo_171 (_ : Params) : Obj := ⟨.type "tuple", none, .seq ⟨[.str ⟨⟨[97]⟩⟩ 386, .str ⟨⟨[98]⟩⟩ 387, .str ⟨⟨[102,111,117,110,100]⟩⟩ 388, .str ⟨⟨[111,110,101]⟩⟩ 389, .str ⟨⟨[108,101,102,116]⟩⟩ 390, .str ⟨⟨[111,116,104,101,114]⟩⟩ 391, .str ⟨⟨[114,105,103,104,116]⟩⟩ 392]⟩ 0, ⟨[]⟩⟩
noncomputable def fo_172 (_ : Params) : Obj := ⟨.type "tuple", none, .seq ⟨[]⟩ 0, ⟨[]⟩⟩
noncomputable def fo_173 (_ : Params) : Obj := ⟨.none, none, .func (fT (stT 28) ⟨⟨[113,109,117,108]⟩⟩ ⟨⟨[113,109,117,108]⟩⟩ 0 (.none) (.none)), ⟨[]⟩⟩
noncomputable def fo_174 (_ : Params) : Obj := ⟨.type "code", none, .fields ⟨[.str ⟨⟨[113,109,117,108]⟩⟩ 383, .str ⟨⟨[113,109,117,108]⟩⟩ 384, .str ⟨⟨[47,99,108,97,105,109,47,99,117,116,46,112,121]⟩⟩ 385, .int 70 0, .int 2 0, .int 0 0, .int 0 0, .int 3 0, .ref 169, .bool true, .int 181 0, .ref 170, .none, .ref 171, .ref 172, .ref 173, .int 393 0, .int 70 0, .str ⟨⟨[47,99,108,97,105,109,47,99,117,116,46,112,121]⟩⟩ 394]⟩, ⟨[]⟩⟩
noncomputable def fo_175 (_ : Params) : Obj := ⟨.type "function", none, .func (fT (stT 28) ⟨⟨[113,109,117,108]⟩⟩ ⟨⟨[113,109,117,108]⟩⟩ 3 (.str ⟨⟨[99,97,115,46,113,112,111,108,121]⟩⟩ 325) (.ref 174)), ⟨[]⟩⟩
noncomputable def fo_176 (_ : Params) : Obj := ⟨.type "tuple", none, .seq ⟨[]⟩ 0, ⟨[]⟩⟩
noncomputable def fo_177 (_ : Params) : Obj := ⟨.none, none, .fields ⟨[]⟩, ⟨[]⟩⟩
noncomputable def fo_178 (_ : Params) : Obj := ⟨.type "tuple", none, .seq ⟨[.str ⟨⟨[112]⟩⟩ 399, .str ⟨⟨[109,97,110,121]⟩⟩ 400, .str ⟨⟨[102,111,117,110,100]⟩⟩ 401, .str ⟨⟨[116,117,114,110]⟩⟩ 402]⟩ 0, ⟨[]⟩⟩
noncomputable def fo_179 (_ : Params) : Obj := ⟨.type "tuple", none, .seq ⟨[]⟩ 0, ⟨[]⟩⟩
noncomputable def fo_180 (_ : Params) : Obj := ⟨.none, none, .func (fT (stT 29) ⟨⟨[113,112,111,119,101,114]⟩⟩ ⟨⟨[113,112,111,119,101,114]⟩⟩ 0 (.none) (.none)), ⟨[]⟩⟩
noncomputable def fo_181 (_ : Params) : Obj := ⟨.type "code", none, .fields ⟨[.str ⟨⟨[113,112,111,119,101,114]⟩⟩ 396, .str ⟨⟨[113,112,111,119,101,114]⟩⟩ 397, .str ⟨⟨[47,99,108,97,105,109,47,99,117,116,46,112,121]⟩⟩ 398, .int 78 0, .int 2 0, .int 0 0, .int 0 0, .int 3 0, .ref 176, .bool true, .int 181 0, .ref 177, .none, .ref 178, .ref 179, .ref 180, .int 403 0, .int 78 0, .str ⟨⟨[47,99,108,97,105,109,47,99,117,116,46,112,121]⟩⟩ 404]⟩, ⟨[]⟩⟩
noncomputable def fo_182 (_ : Params) : Obj := ⟨.type "function", none, .func (fT (stT 29) ⟨⟨[113,112,111,119,101,114]⟩⟩ ⟨⟨[113,112,111,119,101,114]⟩⟩ 3 (.str ⟨⟨[99,97,115,46,113,112,111,108,121]⟩⟩ 325) (.ref 181)), ⟨[]⟩⟩
noncomputable def fo_183 (_ : Params) : Obj := ⟨.type "tuple", none, .seq ⟨[]⟩ 0, ⟨[]⟩⟩
noncomputable def fo_184 (_ : Params) : Obj := ⟨.none, none, .fields ⟨[]⟩, ⟨[]⟩⟩
noncomputable def fo_185 (_ : Params) : Obj := ⟨.type "tuple", none, .seq ⟨[.str ⟨⟨[97]⟩⟩ 409, .str ⟨⟨[98]⟩⟩ 410, .str ⟨⟨[114,101,115,116]⟩⟩ 411, .str ⟨⟨[102,111,117,110,100]⟩⟩ 412, .str ⟨⟨[110,117,109,98,101,114]⟩⟩ 413, .str ⟨⟨[112,111,119,101,114]⟩⟩ 414, .str ⟨⟨[108,111,119,101,114]⟩⟩ 415]⟩ 0, ⟨[]⟩⟩
noncomputable def fo_186 (_ : Params) : Obj := ⟨.type "tuple", none, .seq ⟨[]⟩ 0, ⟨[]⟩⟩
noncomputable def fo_187 (_ : Params) : Obj := ⟨.none, none, .func (fT (stT 30) ⟨⟨[113,100,105,118,109,111,100]⟩⟩ ⟨⟨[113,100,105,118,109,111,100]⟩⟩ 0 (.none) (.none)), ⟨[]⟩⟩
noncomputable def fo_188 (_ : Params) : Obj := ⟨.type "code", none, .fields ⟨[.str ⟨⟨[113,100,105,118,109,111,100]⟩⟩ 406, .str ⟨⟨[113,100,105,118,109,111,100]⟩⟩ 407, .str ⟨⟨[47,99,108,97,105,109,47,99,117,116,46,112,121]⟩⟩ 408, .int 83 0, .int 2 0, .int 0 0, .int 0 0, .int 3 0, .ref 183, .bool true, .int 181 0, .ref 184, .none, .ref 185, .ref 186, .ref 187, .int 416 0, .int 83 0, .str ⟨⟨[47,99,108,97,105,109,47,99,117,116,46,112,121]⟩⟩ 417]⟩, ⟨[]⟩⟩
noncomputable def fo_189 (_ : Params) : Obj := ⟨.type "function", none, .func (fT (stT 30) ⟨⟨[113,100,105,118,109,111,100]⟩⟩ ⟨⟨[113,100,105,118,109,111,100]⟩⟩ 3 (.str ⟨⟨[99,97,115,46,113,112,111,108,121]⟩⟩ 325) (.ref 188)), ⟨[]⟩⟩
noncomputable def fo_190 (_ : Params) : Obj := ⟨.type "tuple", none, .seq ⟨[]⟩ 0, ⟨[]⟩⟩
noncomputable def fo_191 (_ : Params) : Obj := ⟨.none, none, .fields ⟨[]⟩, ⟨[]⟩⟩
noncomputable def fo_192 (_ : Params) : Obj := ⟨.type "tuple", none, .seq ⟨[.str ⟨⟨[112]⟩⟩ 422]⟩ 0, ⟨[]⟩⟩
noncomputable def fo_193 (_ : Params) : Obj := ⟨.type "tuple", none, .seq ⟨[]⟩ 0, ⟨[]⟩⟩
noncomputable def fo_194 (_ : Params) : Obj := ⟨.none, none, .func (fT (stT 31) ⟨⟨[113,109,111,110,105,99]⟩⟩ ⟨⟨[113,109,111,110,105,99]⟩⟩ 0 (.none) (.none)), ⟨[]⟩⟩
noncomputable def fo_195 (_ : Params) : Obj := ⟨.type "code", none, .fields ⟨[.str ⟨⟨[113,109,111,110,105,99]⟩⟩ 419, .str ⟨⟨[113,109,111,110,105,99]⟩⟩ 420, .str ⟨⟨[47,99,108,97,105,109,47,99,117,116,46,112,121]⟩⟩ 421, .int 93 0, .int 1 0, .int 0 0, .int 0 0, .int 3 0, .ref 190, .bool true, .int 181 0, .ref 191, .none, .ref 192, .ref 193, .ref 194, .int 423 0, .int 93 0, .str ⟨⟨[47,99,108,97,105,109,47,99,117,116,46,112,121]⟩⟩ 424]⟩, ⟨[]⟩⟩
noncomputable def fo_196 (_ : Params) : Obj := ⟨.type "function", none, .func (fT (stT 31) ⟨⟨[113,109,111,110,105,99]⟩⟩ ⟨⟨[113,109,111,110,105,99]⟩⟩ 3 (.str ⟨⟨[99,97,115,46,113,112,111,108,121]⟩⟩ 325) (.ref 195)), ⟨[]⟩⟩
noncomputable def fo_197 (_ : Params) : Obj := ⟨.type "tuple", none, .seq ⟨[]⟩ 0, ⟨[]⟩⟩
noncomputable def fo_198 (_ : Params) : Obj := ⟨.none, none, .fields ⟨[]⟩, ⟨[]⟩⟩
noncomputable def fo_199 (_ : Params) : Obj := ⟨.type "tuple", none, .seq ⟨[.str ⟨⟨[97]⟩⟩ 429, .str ⟨⟨[98]⟩⟩ 430]⟩ 0, ⟨[]⟩⟩
noncomputable def fo_200 (_ : Params) : Obj := ⟨.type "tuple", none, .seq ⟨[]⟩ 0, ⟨[]⟩⟩
noncomputable def fo_201 (_ : Params) : Obj := ⟨.none, none, .func (fT (stT 32) ⟨⟨[113,103,99,100]⟩⟩ ⟨⟨[113,103,99,100]⟩⟩ 0 (.none) (.none)), ⟨[]⟩⟩
noncomputable def fo_202 (_ : Params) : Obj := ⟨.type "code", none, .fields ⟨[.str ⟨⟨[113,103,99,100]⟩⟩ 426, .str ⟨⟨[113,103,99,100]⟩⟩ 427, .str ⟨⟨[47,99,108,97,105,109,47,99,117,116,46,112,121]⟩⟩ 428, .int 95 0, .int 2 0, .int 0 0, .int 0 0, .int 3 0, .ref 197, .bool true, .int 181 0, .ref 198, .none, .ref 199, .ref 200, .ref 201, .int 431 0, .int 95 0, .str ⟨⟨[47,99,108,97,105,109,47,99,117,116,46,112,121]⟩⟩ 432]⟩, ⟨[]⟩⟩
noncomputable def fo_203 (_ : Params) : Obj := ⟨.type "function", none, .func (fT (stT 32) ⟨⟨[113,103,99,100]⟩⟩ ⟨⟨[113,103,99,100]⟩⟩ 3 (.str ⟨⟨[99,97,115,46,113,112,111,108,121]⟩⟩ 325) (.ref 202)), ⟨[]⟩⟩
noncomputable def fo_204 (_ : Params) : Obj := ⟨.type "tuple", none, .seq ⟨[]⟩ 0, ⟨[]⟩⟩
noncomputable def fo_205 (_ : Params) : Obj := ⟨.none, none, .fields ⟨[]⟩, ⟨[]⟩⟩
noncomputable def fo_206 (_ : Params) : Obj := ⟨.none, none, .func (fT (stT 33) ⟨⟨[113,100,101,114,105,118,101]⟩⟩ ⟨⟨[113,100,101,114,105,118,101]⟩⟩ 0 (.none) (.none)), ⟨[]⟩⟩
noncomputable def fo_207 (_ : Params) : Obj := ⟨.type "code", none, .fields ⟨[.str ⟨⟨[113,100,101,114,105,118,101]⟩⟩ 434, .str ⟨⟨[113,100,101,114,105,118,101]⟩⟩ 435, .str ⟨⟨[47,99,108,97,105,109,47,99,117,116,46,112,121]⟩⟩ 436, .int 99 0, .int 1 0, .int 0 0, .int 0 0, .int 3 0, .ref 204, .bool true, .int 181 0, .ref 205, .none, .none, .none, .ref 206, .int 437 0, .int 99 0, .str ⟨⟨[47,99,108,97,105,109,47,99,117,116,46,112,121]⟩⟩ 438]⟩, ⟨[]⟩⟩
noncomputable def fo_208 (_ : Params) : Obj := ⟨.type "function", none, .func (fT (stT 33) ⟨⟨[113,100,101,114,105,118,101]⟩⟩ ⟨⟨[113,100,101,114,105,118,101]⟩⟩ 3 (.str ⟨⟨[99,97,115,46,113,112,111,108,121]⟩⟩ 325) (.ref 207)), ⟨[]⟩⟩
noncomputable def fo_209 (_ : Params) : Obj := ⟨.type "tuple", none, .seq ⟨[]⟩ 0, ⟨[]⟩⟩
noncomputable def fo_210 (_ : Params) : Obj := ⟨.none, none, .fields ⟨[]⟩, ⟨[]⟩⟩
noncomputable def fo_211 (_ : Params) : Obj := ⟨.none, none, .func (fT (stT 34) ⟨⟨[113,105,110,116,101,103,114,97,108]⟩⟩ ⟨⟨[113,105,110,116,101,103,114,97,108]⟩⟩ 0 (.none) (.none)), ⟨[]⟩⟩
noncomputable def fo_212 (_ : Params) : Obj := ⟨.type "code", none, .fields ⟨[.str ⟨⟨[113,105,110,116,101,103,114,97,108]⟩⟩ 440, .str ⟨⟨[113,105,110,116,101,103,114,97,108]⟩⟩ 441, .str ⟨⟨[47,99,108,97,105,109,47,99,117,116,46,112,121]⟩⟩ 442, .int 101 0, .int 1 0, .int 0 0, .int 0 0, .int 3 0, .ref 209, .bool true, .int 181 0, .ref 210, .none, .none, .none, .ref 211, .int 443 0, .int 101 0, .str ⟨⟨[47,99,108,97,105,109,47,99,117,116,46,112,121]⟩⟩ 444]⟩, ⟨[]⟩⟩
noncomputable def fo_213 (_ : Params) : Obj := ⟨.type "function", none, .func (fT (stT 34) ⟨⟨[113,105,110,116,101,103,114,97,108]⟩⟩ ⟨⟨[113,105,110,116,101,103,114,97,108]⟩⟩ 3 (.str ⟨⟨[99,97,115,46,113,112,111,108,121]⟩⟩ 325) (.ref 212)), ⟨[]⟩⟩
noncomputable def fo_214 (_ : Params) : Obj := ⟨.type "tuple", none, .seq ⟨[]⟩ 0, ⟨[]⟩⟩
noncomputable def fo_215 (_ : Params) : Obj := ⟨.none, none, .fields ⟨[]⟩, ⟨[]⟩⟩
noncomputable def fo_216 (_ : Params) : Obj := ⟨.type "tuple", none, .seq ⟨[.str ⟨⟨[112]⟩⟩ 449, .str ⟨⟨[114]⟩⟩ 450, .str ⟨⟨[102,111,117,110,100]⟩⟩ 451, .str ⟨⟨[110,117,109,98,101,114]⟩⟩ 452]⟩ 0, ⟨[]⟩⟩
noncomputable def fo_217 (_ : Params) : Obj := ⟨.type "tuple", none, .seq ⟨[]⟩ 0, ⟨[]⟩⟩
noncomputable def fo_218 (_ : Params) : Obj := ⟨.none, none, .func (fT (stT 35) ⟨⟨[113,97,116]⟩⟩ ⟨⟨[113,97,116]⟩⟩ 0 (.none) (.none)), ⟨[]⟩⟩
noncomputable def fo_219 (_ : Params) : Obj := ⟨.type "code", none, .fields ⟨[.str ⟨⟨[113,97,116]⟩⟩ 446, .str ⟨⟨[113,97,116]⟩⟩ 447, .str ⟨⟨[47,99,108,97,105,109,47,99,117,116,46,112,121]⟩⟩ 448, .int 104 0, .int 2 0, .int 0 0, .int 0 0, .int 3 0, .ref 214, .bool true, .int 181 0, .ref 215, .none, .ref 216, .ref 217, .ref 218, .int 453 0, .int 104 0, .str ⟨⟨[47,99,108,97,105,109,47,99,117,116,46,112,121]⟩⟩ 454]⟩, ⟨[]⟩⟩
noncomputable def fo_220 (_ : Params) : Obj := ⟨.type "function", none, .func (fT (stT 35) ⟨⟨[113,97,116]⟩⟩ ⟨⟨[113,97,116]⟩⟩ 3 (.str ⟨⟨[99,97,115,46,113,112,111,108,121]⟩⟩ 325) (.ref 219)), ⟨[]⟩⟩
noncomputable def fo_221 (_ : Params) : Obj := ⟨.type "tuple", none, .seq ⟨[]⟩ 0, ⟨[]⟩⟩
noncomputable def fo_222 (_ : Params) : Obj := ⟨.none, none, .fields ⟨[]⟩, ⟨[]⟩⟩
noncomputable def fo_223 (_ : Params) : Obj := ⟨.type "tuple", none, .seq ⟨[.str ⟨⟨[97]⟩⟩ 459, .str ⟨⟨[98]⟩⟩ 460, .str ⟨⟨[102,111,117,110,100]⟩⟩ 461, .str ⟨⟨[110,117,109,98,101,114]⟩⟩ 462]⟩ 0, ⟨[]⟩⟩
noncomputable def fo_224 (_ : Params) : Obj := ⟨.type "tuple", none, .seq ⟨[]⟩ 0, ⟨[]⟩⟩
noncomputable def fo_225 (_ : Params) : Obj := ⟨.none, none, .func (fT (stT 36) ⟨⟨[113,99,111,109,112,111,115,101]⟩⟩ ⟨⟨[113,99,111,109,112,111,115,101]⟩⟩ 0 (.none) (.none)), ⟨[]⟩⟩
noncomputable def fo_226 (_ : Params) : Obj := ⟨.type "code", none, .fields ⟨[.str ⟨⟨[113,99,111,109,112,111,115,101]⟩⟩ 456, .str ⟨⟨[113,99,111,109,112,111,115,101]⟩⟩ 457, .str ⟨⟨[47,99,108,97,105,109,47,99,117,116,46,112,121]⟩⟩ 458, .int 109 0, .int 2 0, .int 0 0, .int 0 0, .int 3 0, .ref 221, .bool true, .int 181 0, .ref 222, .none, .ref 223, .ref 224, .ref 225, .int 463 0, .int 109 0, .str ⟨⟨[47,99,108,97,105,109,47,99,117,116,46,112,121]⟩⟩ 464]⟩, ⟨[]⟩⟩
noncomputable def fo_227 (_ : Params) : Obj := ⟨.type "function", none, .func (fT (stT 36) ⟨⟨[113,99,111,109,112,111,115,101]⟩⟩ ⟨⟨[113,99,111,109,112,111,115,101]⟩⟩ 3 (.str ⟨⟨[99,97,115,46,113,112,111,108,121]⟩⟩ 325) (.ref 226)), ⟨[]⟩⟩
noncomputable def fo_228 (_ : Params) : Obj := ⟨.type "tuple", none, .seq ⟨[]⟩ 0, ⟨[]⟩⟩
noncomputable def fo_229 (_ : Params) : Obj := ⟨.none, none, .fields ⟨[]⟩, ⟨[]⟩⟩
noncomputable def fo_230 (_ : Params) : Obj := ⟨.type "tuple", none, .seq ⟨[.str ⟨⟨[97]⟩⟩ 469, .str ⟨⟨[98]⟩⟩ 470, .str ⟨⟨[114]⟩⟩ 471]⟩ 0, ⟨[]⟩⟩
noncomputable def fo_231 (_ : Params) : Obj := ⟨.type "tuple", none, .seq ⟨[]⟩ 0, ⟨[]⟩⟩
noncomputable def fo_232 (_ : Params) : Obj := ⟨.none, none, .func (fT (stT 37) ⟨⟨[113,100,105,115,116,97,110,99,101]⟩⟩ ⟨⟨[113,100,105,115,116,97,110,99,101]⟩⟩ 0 (.none) (.none)), ⟨[]⟩⟩
noncomputable def fo_233 (_ : Params) : Obj := ⟨.type "code", none, .fields ⟨[.str ⟨⟨[113,100,105,115,116,97,110,99,101]⟩⟩ 466, .str ⟨⟨[113,100,105,115,116,97,110,99,101]⟩⟩ 467, .str ⟨⟨[47,99,108,97,105,109,47,99,117,116,46,112,121]⟩⟩ 468, .int 114 0, .int 3 0, .int 0 0, .int 0 0, .int 3 0, .ref 228, .bool true, .int 181 0, .ref 229, .none, .ref 230, .ref 231, .ref 232, .int 472 0, .int 114 0, .str ⟨⟨[47,99,108,97,105,109,47,99,117,116,46,112,121]⟩⟩ 473]⟩, ⟨[]⟩⟩
noncomputable def fo_234 (_ : Params) : Obj := ⟨.type "function", none, .func (fT (stT 37) ⟨⟨[113,100,105,115,116,97,110,99,101]⟩⟩ ⟨⟨[113,100,105,115,116,97,110,99,101]⟩⟩ 3 (.str ⟨⟨[99,97,115,46,113,112,111,108,121]⟩⟩ 325) (.ref 233)), ⟨[]⟩⟩
noncomputable def fo_235 (_ : Params) : Obj := ⟨.type "tuple", none, .seq ⟨[]⟩ 0, ⟨[]⟩⟩
noncomputable def fo_236 (_ : Params) : Obj := ⟨.none, none, .fields ⟨[]⟩, ⟨[]⟩⟩
noncomputable def fo_237 (_ : Params) : Obj := ⟨.none, none, .func (fT (stT 38) ⟨⟨[116,111,95,122]⟩⟩ ⟨⟨[116,111,95,122]⟩⟩ 0 (.none) (.none)), ⟨[]⟩⟩
noncomputable def fo_238 (_ : Params) : Obj := ⟨.type "code", none, .fields ⟨[.str ⟨⟨[116,111,95,122]⟩⟩ 475, .str ⟨⟨[116,111,95,122]⟩⟩ 476, .str ⟨⟨[47,99,108,97,105,109,47,99,117,116,46,112,121]⟩⟩ 477, .int 116 0, .int 1 0, .int 0 0, .int 0 0, .int 3 0, .ref 235, .bool true, .int 181 0, .ref 236, .none, .none, .none, .ref 237, .int 478 0, .int 116 0, .str ⟨⟨[47,99,108,97,105,109,47,99,117,116,46,112,121]⟩⟩ 479]⟩, ⟨[]⟩⟩
noncomputable def fo_239 (_ : Params) : Obj := ⟨.type "function", none, .func (fT (stT 38) ⟨⟨[116,111,95,122]⟩⟩ ⟨⟨[116,111,95,122]⟩⟩ 3 (.str ⟨⟨[99,97,115,46,113,112,111,108,121]⟩⟩ 325) (.ref 238)), ⟨[]⟩⟩
noncomputable def fo_240 (_ : Params) : Obj := ⟨.type "tuple", none, .seq ⟨[]⟩ 0, ⟨[]⟩⟩
noncomputable def fo_241 (_ : Params) : Obj := ⟨.none, none, .fields ⟨[]⟩, ⟨[]⟩⟩
noncomputable def fo_242 (_ : Params) : Obj := ⟨.none, none, .func (fT (stT 39) ⟨⟨[102,114,111,109,95,122]⟩⟩ ⟨⟨[102,114,111,109,95,122]⟩⟩ 0 (.none) (.none)), ⟨[]⟩⟩
noncomputable def fo_243 (_ : Params) : Obj := ⟨.type "code", none, .fields ⟨[.str ⟨⟨[102,114,111,109,95,122]⟩⟩ 481, .str ⟨⟨[102,114,111,109,95,122]⟩⟩ 482, .str ⟨⟨[47,99,108,97,105,109,47,99,117,116,46,112,121]⟩⟩ 483, .int 125 0, .int 1 0, .int 0 0, .int 0 0, .int 3 0, .ref 240, .bool true, .int 181 0, .ref 241, .none, .none, .none, .ref 242, .int 484 0, .int 125 0, .str ⟨⟨[47,99,108,97,105,109,47,99,117,116,46,112,121]⟩⟩ 485]⟩, ⟨[]⟩⟩
noncomputable def fo_244 (_ : Params) : Obj := ⟨.type "function", none, .func (fT (stT 39) ⟨⟨[102,114,111,109,95,122]⟩⟩ ⟨⟨[102,114,111,109,95,122]⟩⟩ 3 (.str ⟨⟨[99,97,115,46,113,112,111,108,121]⟩⟩ 325) (.ref 243)), ⟨[]⟩⟩
noncomputable def fo_245 (_ : Params) : Obj := ⟨.type "tuple", none, .seq ⟨[]⟩ 0, ⟨[]⟩⟩
noncomputable def fo_246 (_ : Params) : Obj := ⟨.none, none, .fields ⟨[]⟩, ⟨[]⟩⟩
noncomputable def fo_247 (_ : Params) : Obj := ⟨.type "tuple", none, .seq ⟨[.str ⟨⟨[98,111,120]⟩⟩ 492, .str ⟨⟨[109,97,110,121]⟩⟩ 493, .str ⟨⟨[99,101,108,108]⟩⟩ 494]⟩ 0, ⟨[]⟩⟩
noncomputable def fo_248 (_ : Params) : Obj := ⟨.type "tuple", none, .seq ⟨[]⟩ 0, ⟨[]⟩⟩
noncomputable def fo_249 (_ : Params) : Obj := ⟨.none, none, .func (fT (stT 41) ⟨⟨[95,108,97,119,95,116,97,107,101]⟩⟩ ⟨⟨[95,108,97,119,95,116,97,107,101]⟩⟩ 0 (.none) (.none)), ⟨[]⟩⟩
noncomputable def fo_250 (_ : Params) : Obj := ⟨.type "code", none, .fields ⟨[.str ⟨⟨[95,108,97,119,95,116,97,107,101]⟩⟩ 489, .str ⟨⟨[95,108,97,119,95,116,97,107,101]⟩⟩ 490, .str ⟨⟨[47,99,108,97,105,109,47,99,117,116,46,112,121]⟩⟩ 491, .int 128 0, .int 2 0, .int 0 0, .int 0 0, .int 3 0, .ref 245, .bool true, .int 181 0, .ref 246, .none, .ref 247, .ref 248, .ref 249, .int 495 0, .int 128 0, .str ⟨⟨[47,99,108,97,105,109,47,99,117,116,46,112,121]⟩⟩ 496]⟩, ⟨[]⟩⟩
noncomputable def fo_251 (_ : Params) : Obj := ⟨.type "function", none, .func (fT (stT 41) ⟨⟨[95,108,97,119,95,116,97,107,101]⟩⟩ ⟨⟨[95,108,97,119,95,116,97,107,101]⟩⟩ 3 (.str ⟨⟨[108,97,119,95,112,113,48,49,56,57,95,48,49]⟩⟩ 487) (.ref 250)), ⟨[]⟩⟩
noncomputable def fo_252 (_ : Params) : Obj := ⟨.type "tuple", none, .seq ⟨[]⟩ 0, ⟨[]⟩⟩
noncomputable def fo_253 (_ : Params) : Obj := ⟨.none, none, .fields ⟨[]⟩, ⟨[]⟩⟩
noncomputable def fo_254 (_ : Params) : Obj := ⟨.type "tuple", none, .seq ⟨[.str ⟨⟨[116,111,112]⟩⟩ 501, .str ⟨⟨[98,111,116,116,111,109]⟩⟩ 502, .str ⟨⟨[111,110,101]⟩⟩ 503, .str ⟨⟨[111,116,104,101,114]⟩⟩ 504]⟩ 0, ⟨[]⟩⟩
noncomputable def fo_255 (_ : Params) : Obj := ⟨.type "tuple", none, .seq ⟨[]⟩ 0, ⟨[]⟩⟩
noncomputable def fo_256 (_ : Params) : Obj := ⟨.none, none, .func (fT (stT 42) ⟨⟨[95,108,97,119,95,114,97,116,105,111]⟩⟩ ⟨⟨[95,108,97,119,95,114,97,116,105,111]⟩⟩ 0 (.none) (.none)), ⟨[]⟩⟩
noncomputable def fo_257 (_ : Params) : Obj := ⟨.type "code", none, .fields ⟨[.str ⟨⟨[95,108,97,119,95,114,97,116,105,111]⟩⟩ 498, .str ⟨⟨[95,108,97,119,95,114,97,116,105,111]⟩⟩ 499, .str ⟨⟨[47,99,108,97,105,109,47,99,117,116,46,112,121]⟩⟩ 500, .int 132 0, .int 2 0, .int 0 0, .int 0 0, .int 3 0, .ref 252, .bool true, .int 181 0, .ref 253, .none, .ref 254, .ref 255, .ref 256, .int 505 0, .int 132 0, .str ⟨⟨[47,99,108,97,105,109,47,99,117,116,46,112,121]⟩⟩ 506]⟩, ⟨[]⟩⟩
noncomputable def fo_258 (_ : Params) : Obj := ⟨.type "function", none, .func (fT (stT 42) ⟨⟨[95,108,97,119,95,114,97,116,105,111]⟩⟩ ⟨⟨[95,108,97,119,95,114,97,116,105,111]⟩⟩ 3 (.str ⟨⟨[108,97,119,95,112,113,48,49,56,57,95,48,49]⟩⟩ 487) (.ref 257)), ⟨[]⟩⟩
noncomputable def fo_259 (_ : Params) : Obj := ⟨.type "tuple", none, .seq ⟨[]⟩ 0, ⟨[]⟩⟩
noncomputable def fo_260 (_ : Params) : Obj := ⟨.none, none, .fields ⟨[]⟩, ⟨[]⟩⟩
noncomputable def fo_261 (_ : Params) : Obj := ⟨.type "tuple", none, .seq ⟨[.str ⟨⟨[98,111,120]⟩⟩ 511, .str ⟨⟨[102,111,117,110,100]⟩⟩ 512, .str ⟨⟨[116,117,114,110]⟩⟩ 513]⟩ 0, ⟨[]⟩⟩
noncomputable def fo_262 (_ : Params) : Obj := ⟨.type "tuple", none, .seq ⟨[]⟩ 0, ⟨[]⟩⟩
noncomputable def fo_263 (_ : Params) : Obj := ⟨.none, none, .func (fT (stT 43) ⟨⟨[95,108,97,119,95,114,111,119]⟩⟩ ⟨⟨[95,108,97,119,95,114,111,119]⟩⟩ 0 (.none) (.none)), ⟨[]⟩⟩
noncomputable def fo_264 (_ : Params) : Obj := ⟨.type "code", none, .fields ⟨[.str ⟨⟨[95,108,97,119,95,114,111,119]⟩⟩ 508, .str ⟨⟨[95,108,97,119,95,114,111,119]⟩⟩ 509, .str ⟨⟨[47,99,108,97,105,109,47,99,117,116,46,112,121]⟩⟩ 510, .int 138 0, .int 1 0, .int 0 0, .int 0 0, .int 3 0, .ref 259, .bool true, .int 181 0, .ref 260, .none, .ref 261, .ref 262, .ref 263, .int 514 0, .int 138 0, .str ⟨⟨[47,99,108,97,105,109,47,99,117,116,46,112,121]⟩⟩ 515]⟩, ⟨[]⟩⟩
noncomputable def fo_265 (_ : Params) : Obj := ⟨.type "function", none, .func (fT (stT 43) ⟨⟨[95,108,97,119,95,114,111,119]⟩⟩ ⟨⟨[95,108,97,119,95,114,111,119]⟩⟩ 3 (.str ⟨⟨[108,97,119,95,112,113,48,49,56,57,95,48,49]⟩⟩ 487) (.ref 264)), ⟨[]⟩⟩
noncomputable def fo_266 (_ : Params) : Obj := ⟨.type "tuple", none, .seq ⟨[]⟩ 0, ⟨[]⟩⟩
noncomputable def fo_267 (_ : Params) : Obj := ⟨.none, none, .fields ⟨[]⟩, ⟨[]⟩⟩
noncomputable def fo_268 (_ : Params) : Obj := ⟨.type "tuple", none, .seq ⟨[.str ⟨⟨[111,110,101]⟩⟩ 520, .str ⟨⟨[111,116,104,101,114]⟩⟩ 521]⟩ 0, ⟨[]⟩⟩
noncomputable def fo_269 (_ : Params) : Obj := ⟨.type "tuple", none, .seq ⟨[]⟩ 0, ⟨[]⟩⟩
noncomputable def fo_270 (_ : Params) : Obj := ⟨.none, none, .func (fT (stT 44) ⟨⟨[95,108,97,119,95,115,117,109]⟩⟩ ⟨⟨[95,108,97,119,95,115,117,109]⟩⟩ 0 (.none) (.none)), ⟨[]⟩⟩
noncomputable def fo_271 (_ : Params) : Obj := ⟨.type "code", none, .fields ⟨[.str ⟨⟨[95,108,97,119,95,115,117,109]⟩⟩ 517, .str ⟨⟨[95,108,97,119,95,115,117,109]⟩⟩ 518, .str ⟨⟨[47,99,108,97,105,109,47,99,117,116,46,112,121]⟩⟩ 519, .int 145 0, .int 2 0, .int 0 0, .int 0 0, .int 3 0, .ref 266, .bool true, .int 181 0, .ref 267, .none, .ref 268, .ref 269, .ref 270, .int 522 0, .int 145 0, .str ⟨⟨[47,99,108,97,105,109,47,99,117,116,46,112,121]⟩⟩ 523]⟩, ⟨[]⟩⟩
noncomputable def fo_272 (_ : Params) : Obj := ⟨.type "function", none, .func (fT (stT 44) ⟨⟨[95,108,97,119,95,115,117,109]⟩⟩ ⟨⟨[95,108,97,119,95,115,117,109]⟩⟩ 3 (.str ⟨⟨[108,97,119,95,112,113,48,49,56,57,95,48,49]⟩⟩ 487) (.ref 271)), ⟨[]⟩⟩
noncomputable def fo_273 (_ : Params) : Obj := ⟨.type "tuple", none, .seq ⟨[]⟩ 0, ⟨[]⟩⟩
noncomputable def fo_274 (_ : Params) : Obj := ⟨.none, none, .fields ⟨[]⟩, ⟨[]⟩⟩
noncomputable def fo_275 (_ : Params) : Obj := ⟨.type "tuple", none, .seq ⟨[.str ⟨⟨[111,110,101]⟩⟩ 528, .str ⟨⟨[111,116,104,101,114]⟩⟩ 529]⟩ 0, ⟨[]⟩⟩
noncomputable def fo_276 (_ : Params) : Obj := ⟨.type "tuple", none, .seq ⟨[]⟩ 0, ⟨[]⟩⟩
noncomputable def fo_277 (_ : Params) : Obj := ⟨.none, none, .func (fT (stT 45) ⟨⟨[95,108,97,119,95,116,105,109,101,115]⟩⟩ ⟨⟨[95,108,97,119,95,116,105,109,101,115]⟩⟩ 0 (.none) (.none)), ⟨[]⟩⟩
noncomputable def fo_278 (_ : Params) : Obj := ⟨.type "code", none, .fields ⟨[.str ⟨⟨[95,108,97,119,95,116,105,109,101,115]⟩⟩ 525, .str ⟨⟨[95,108,97,119,95,116,105,109,101,115]⟩⟩ 526, .str ⟨⟨[47,99,108,97,105,109,47,99,117,116,46,112,121]⟩⟩ 527, .int 147 0, .int 2 0, .int 0 0, .int 0 0, .int 3 0, .ref 273, .bool true, .int 181 0, .ref 274, .none, .ref 275, .ref 276, .ref 277, .int 530 0, .int 147 0, .str ⟨⟨[47,99,108,97,105,109,47,99,117,116,46,112,121]⟩⟩ 531]⟩, ⟨[]⟩⟩
noncomputable def fo_279 (_ : Params) : Obj := ⟨.type "function", none, .func (fT (stT 45) ⟨⟨[95,108,97,119,95,116,105,109,101,115]⟩⟩ ⟨⟨[95,108,97,119,95,116,105,109,101,115]⟩⟩ 3 (.str ⟨⟨[108,97,119,95,112,113,48,49,56,57,95,48,49]⟩⟩ 487) (.ref 278)), ⟨[]⟩⟩
noncomputable def fo_280 (_ : Params) : Obj := ⟨.type "tuple", none, .seq ⟨[]⟩ 0, ⟨[]⟩⟩
noncomputable def fo_281 (_ : Params) : Obj := ⟨.none, none, .fields ⟨[]⟩, ⟨[]⟩⟩
noncomputable def fo_282 (_ : Params) : Obj := ⟨.type "tuple", none, .seq ⟨[.str ⟨⟨[114,111,119]⟩⟩ 536, .str ⟨⟨[114]⟩⟩ 537, .str ⟨⟨[116,111,112]⟩⟩ 538, .str ⟨⟨[98,111,116,116,111,109]⟩⟩ 539, .str ⟨⟨[117,112]⟩⟩ 540, .str ⟨⟨[100,111,119,110]⟩⟩ 541, .str ⟨⟨[111,110,101]⟩⟩ 542]⟩ 0, ⟨[]⟩⟩
noncomputable def fo_283 (_ : Params) : Obj := ⟨.type "tuple", none, .seq ⟨[]⟩ 0, ⟨[]⟩⟩
noncomputable def fo_284 (_ : Params) : Obj := ⟨.none, none, .func (fT (stT 46) ⟨⟨[95,108,97,119,95,119,111,114,116,104]⟩⟩ ⟨⟨[95,108,97,119,95,119,111,114,116,104]⟩⟩ 0 (.none) (.none)), ⟨[]⟩⟩
noncomputable def fo_285 (_ : Params) : Obj := ⟨.type "code", none, .fields ⟨[.str ⟨⟨[95,108,97,119,95,119,111,114,116,104]⟩⟩ 533, .str ⟨⟨[95,108,97,119,95,119,111,114,116,104]⟩⟩ 534, .str ⟨⟨[47,99,108,97,105,109,47,99,117,116,46,112,121]⟩⟩ 535, .int 149 0, .int 2 0, .int 0 0, .int 0 0, .int 3 0, .ref 280, .bool true, .int 181 0, .ref 281, .none, .ref 282, .ref 283, .ref 284, .int 543 0, .int 149 0, .str ⟨⟨[47,99,108,97,105,109,47,99,117,116,46,112,121]⟩⟩ 544]⟩, ⟨[]⟩⟩
noncomputable def fo_286 (_ : Params) : Obj := ⟨.type "function", none, .func (fT (stT 46) ⟨⟨[95,108,97,119,95,119,111,114,116,104]⟩⟩ ⟨⟨[95,108,97,119,95,119,111,114,116,104]⟩⟩ 3 (.str ⟨⟨[108,97,119,95,112,113,48,49,56,57,95,48,49]⟩⟩ 487) (.ref 285)), ⟨[]⟩⟩
noncomputable def fo_287 (_ : Params) : Obj := ⟨.type "tuple", none, .seq ⟨[]⟩ 0, ⟨[]⟩⟩
noncomputable def fo_288 (_ : Params) : Obj := ⟨.none, none, .fields ⟨[]⟩, ⟨[]⟩⟩
noncomputable def fo_289 (_ : Params) : Obj := ⟨.type "tuple", none, .seq ⟨[.str ⟨⟨[111,110,101]⟩⟩ 549]⟩ 0, ⟨[]⟩⟩
noncomputable def fo_290 (_ : Params) : Obj := ⟨.type "tuple", none, .seq ⟨[]⟩ 0, ⟨[]⟩⟩
noncomputable def fo_291 (_ : Params) : Obj := ⟨.none, none, .func (fT (stT 47) ⟨⟨[95,108,97,119,95,109,105,110,117,115]⟩⟩ ⟨⟨[95,108,97,119,95,109,105,110,117,115]⟩⟩ 0 (.none) (.none)), ⟨[]⟩⟩
noncomputable def fo_292 (_ : Params) : Obj := ⟨.type "code", none, .fields ⟨[.str ⟨⟨[95,108,97,119,95,109,105,110,117,115]⟩⟩ 546, .str ⟨⟨[95,108,97,119,95,109,105,110,117,115]⟩⟩ 547, .str ⟨⟨[47,99,108,97,105,109,47,99,117,116,46,112,121]⟩⟩ 548, .int 155 0, .int 1 0, .int 0 0, .int 0 0, .int 3 0, .ref 287, .bool true, .int 181 0, .ref 288, .none, .ref 289, .ref 290, .ref 291, .int 550 0, .int 155 0, .str ⟨⟨[47,99,108,97,105,109,47,99,117,116,46,112,121]⟩⟩ 551]⟩, ⟨[]⟩⟩
noncomputable def fo_293 (_ : Params) : Obj := ⟨.type "function", none, .func (fT (stT 47) ⟨⟨[95,108,97,119,95,109,105,110,117,115]⟩⟩ ⟨⟨[95,108,97,119,95,109,105,110,117,115]⟩⟩ 3 (.str ⟨⟨[108,97,119,95,112,113,48,49,56,57,95,48,49]⟩⟩ 487) (.ref 292)), ⟨[]⟩⟩
noncomputable def fo_294 (_ : Params) : Obj := ⟨.type "tuple", none, .seq ⟨[]⟩ 0, ⟨[]⟩⟩
noncomputable def fo_295 (_ : Params) : Obj := ⟨.none, none, .fields ⟨[]⟩, ⟨[]⟩⟩
noncomputable def fo_296 (_ : Params) : Obj := ⟨.type "tuple", none, .seq ⟨[.str ⟨⟨[114,111,119]⟩⟩ 556, .str ⟨⟨[102,111,117,110,100]⟩⟩ 557, .str ⟨⟨[97,116]⟩⟩ 558, .str ⟨⟨[119,111,114,116,104]⟩⟩ 559, .str ⟨⟨[116,117,114,110]⟩⟩ 560]⟩ 0, ⟨[]⟩⟩
noncomputable def fo_297 (_ : Params) : Obj := ⟨.type "tuple", none, .seq ⟨[]⟩ 0, ⟨[]⟩⟩
noncomputable def fo_298 (_ : Params) : Obj := ⟨.none, none, .func (fT (stT 48) ⟨⟨[95,108,97,119,95,115,108,111,112,101]⟩⟩ ⟨⟨[95,108,97,119,95,115,108,111,112,101]⟩⟩ 0 (.none) (.none)), ⟨[]⟩⟩
noncomputable def fo_299 (_ : Params) : Obj := ⟨.type "code", none, .fields ⟨[.str ⟨⟨[95,108,97,119,95,115,108,111,112,101]⟩⟩ 553, .str ⟨⟨[95,108,97,119,95,115,108,111,112,101]⟩⟩ 554, .str ⟨⟨[47,99,108,97,105,109,47,99,117,116,46,112,121]⟩⟩ 555, .int 157 0, .int 1 0, .int 0 0, .int 0 0, .int 3 0, .ref 294, .bool true, .int 181 0, .ref 295, .none, .ref 296, .ref 297, .ref 298, .int 561 0, .int 157 0, .str ⟨⟨[47,99,108,97,105,109,47,99,117,116,46,112,121]⟩⟩ 562]⟩, ⟨[]⟩⟩
noncomputable def fo_300 (_ : Params) : Obj := ⟨.type "function", none, .func (fT (stT 48) ⟨⟨[95,108,97,119,95,115,108,111,112,101]⟩⟩ ⟨⟨[95,108,97,119,95,115,108,111,112,101]⟩⟩ 3 (.str ⟨⟨[108,97,119,95,112,113,48,49,56,57,95,48,49]⟩⟩ 487) (.ref 299)), ⟨[]⟩⟩
noncomputable def fo_301 (_ : Params) : Obj := ⟨.type "tuple", none, .seq ⟨[]⟩ 0, ⟨[]⟩⟩
noncomputable def fo_302 (_ : Params) : Obj := ⟨.none, none, .fields ⟨[]⟩, ⟨[]⟩⟩
noncomputable def fo_303 (_ : Params) : Obj := ⟨.none, none, .func (fT (stT 49) ⟨⟨[95,108,97,119,95,118,97,108,117,101,115,95,114,105,103,104,116]⟩⟩ ⟨⟨[95,108,97,119,95,118,97,108,117,101,115,95,114,105,103,104,116]⟩⟩ 0 (.none) (.none)), ⟨[]⟩⟩
noncomputable def fo_304 (_ : Params) : Obj := ⟨.type "code", none, .fields ⟨[.str ⟨⟨[95,108,97,119,95,118,97,108,117,101,115,95,114,105,103,104,116]⟩⟩ 564, .str ⟨⟨[95,108,97,119,95,118,97,108,117,101,115,95,114,105,103,104,116]⟩⟩ 565, .str ⟨⟨[47,99,108,97,105,109,47,99,117,116,46,112,121]⟩⟩ 566, .int 165 0, .int 4 0, .int 0 0, .int 0 0, .int 3 0, .ref 301, .bool true, .int 181 0, .ref 302, .none, .none, .none, .ref 303, .int 567 0, .int 165 0, .str ⟨⟨[47,99,108,97,105,109,47,99,117,116,46,112,121]⟩⟩ 568]⟩, ⟨[]⟩⟩
noncomputable def fo_305 (_ : Params) : Obj := ⟨.type "function", none, .func (fT (stT 49) ⟨⟨[95,108,97,119,95,118,97,108,117,101,115,95,114,105,103,104,116]⟩⟩ ⟨⟨[95,108,97,119,95,118,97,108,117,101,115,95,114,105,103,104,116]⟩⟩ 3 (.str ⟨⟨[108,97,119,95,112,113,48,49,56,57,95,48,49]⟩⟩ 487) (.ref 304)), ⟨[]⟩⟩
noncomputable def fo_306 (_ : Params) : Obj := ⟨.type "tuple", none, .seq ⟨[]⟩ 0, ⟨[]⟩⟩
noncomputable def fo_307 (_ : Params) : Obj := ⟨.none, none, .fields ⟨[]⟩, ⟨[]⟩⟩
noncomputable def fo_308 (_ : Params) : Obj := ⟨.none, none, .func (fT (stT 50) ⟨⟨[95,108,97,119,95,102,111,114,109,115,95,114,105,103,104,116]⟩⟩ ⟨⟨[95,108,97,119,95,102,111,114,109,115,95,114,105,103,104,116]⟩⟩ 0 (.none) (.none)), ⟨[]⟩⟩
noncomputable def fo_309 (_ : Params) : Obj := ⟨.type "code", none, .fields ⟨[.str ⟨⟨[95,108,97,119,95,102,111,114,109,115,95,114,105,103,104,116]⟩⟩ 570, .str ⟨⟨[95,108,97,119,95,102,111,114,109,115,95,114,105,103,104,116]⟩⟩ 571, .str ⟨⟨[47,99,108,97,105,109,47,99,117,116,46,112,121]⟩⟩ 572, .int 172 0, .int 1 0, .int 0 0, .int 0 0, .int 3 0, .ref 306, .bool true, .int 181 0, .ref 307, .none, .none, .none, .ref 308, .int 573 0, .int 172 0, .str ⟨⟨[47,99,108,97,105,109,47,99,117,116,46,112,121]⟩⟩ 574]⟩, ⟨[]⟩⟩
noncomputable def fo_310 (_ : Params) : Obj := ⟨.type "function", none, .func (fT (stT 50) ⟨⟨[95,108,97,119,95,102,111,114,109,115,95,114,105,103,104,116]⟩⟩ ⟨⟨[95,108,97,119,95,102,111,114,109,115,95,114,105,103,104,116]⟩⟩ 3 (.str ⟨⟨[108,97,119,95,112,113,48,49,56,57,95,48,49]⟩⟩ 487) (.ref 309)), ⟨[]⟩⟩
noncomputable def fo_311 (_ : Params) : Obj := ⟨.type "tuple", none, .seq ⟨[]⟩ 0, ⟨[]⟩⟩
noncomputable def fo_312 (_ : Params) : Obj := ⟨.none, none, .fields ⟨[]⟩, ⟨[]⟩⟩
noncomputable def fo_313 (_ : Params) : Obj := ⟨.type "tuple", none, .seq ⟨[.str ⟨⟨[113,117,111,116,105,101,110,116]⟩⟩ 579, .str ⟨⟨[98]⟩⟩ 580, .str ⟨⟨[114,101,115,116]⟩⟩ 581, .str ⟨⟨[115,105,122,101]⟩⟩ 582, .str ⟨⟨[102,111,117,110,100]⟩⟩ 583, .str ⟨⟨[97,116]⟩⟩ 584, .str ⟨⟨[111,110,101]⟩⟩ 585, .str ⟨⟨[115,112,111,116]⟩⟩ 586, .str ⟨⟨[111,116,104,101,114]⟩⟩ 587]⟩ 0, ⟨[]⟩⟩
noncomputable def fo_314 (_ : Params) : Obj := ⟨.type "tuple", none, .seq ⟨[]⟩ 0, ⟨[]⟩⟩
noncomputable def fo_315 (_ : Params) : Obj := ⟨.none, none, .func (fT (stT 51) ⟨⟨[95,108,97,119,95,98,97,99,107]⟩⟩ ⟨⟨[95,108,97,119,95,98,97,99,107]⟩⟩ 0 (.none) (.none)), ⟨[]⟩⟩
noncomputable def fo_316 (_ : Params) : Obj := ⟨.type "code", none, .fields ⟨[.str ⟨⟨[95,108,97,119,95,98,97,99,107]⟩⟩ 576, .str ⟨⟨[95,108,97,119,95,98,97,99,107]⟩⟩ 577, .str ⟨⟨[47,99,108,97,105,109,47,99,117,116,46,112,121]⟩⟩ 578, .int 192 0, .int 3 0, .int 0 0, .int 0 0, .int 3 0, .ref 311, .bool true, .int 181 0, .ref 312, .none, .ref 313, .ref 314, .ref 315, .int 588 0, .int 192 0, .str ⟨⟨[47,99,108,97,105,109,47,99,117,116,46,112,121]⟩⟩ 589]⟩, ⟨[]⟩⟩
noncomputable def fo_317 (_ : Params) : Obj := ⟨.type "function", none, .func (fT (stT 51) ⟨⟨[95,108,97,119,95,98,97,99,107]⟩⟩ ⟨⟨[95,108,97,119,95,98,97,99,107]⟩⟩ 3 (.str ⟨⟨[108,97,119,95,112,113,48,49,56,57,95,48,49]⟩⟩ 487) (.ref 316)), ⟨[]⟩⟩
noncomputable def fo_318 (_ : Params) : Obj := ⟨.type "tuple", none, .seq ⟨[]⟩ 0, ⟨[]⟩⟩
noncomputable def fo_319 (_ : Params) : Obj := ⟨.none, none, .fields ⟨[]⟩, ⟨[]⟩⟩
noncomputable def fo_320 (_ : Params) : Obj := ⟨.type "tuple", none, .seq ⟨[.str ⟨⟨[97]⟩⟩ 594, .str ⟨⟨[98]⟩⟩ 595, .str ⟨⟨[113,117,111,116,105,101,110,116]⟩⟩ 596, .str ⟨⟨[114,101,115,116]⟩⟩ 597, .str ⟨⟨[101]⟩⟩ 598]⟩ 0, ⟨[]⟩⟩
noncomputable def fo_321 (_ : Params) : Obj := ⟨.type "tuple", none, .seq ⟨[]⟩ 0, ⟨[]⟩⟩
noncomputable def fo_322 (_ : Params) : Obj := ⟨.none, none, .func (fT (stT 52) ⟨⟨[95,108,97,119,95,100,105,118,105,115,105,111,110,95,114,105,103,104,116]⟩⟩ ⟨⟨[95,108,97,119,95,100,105,118,105,115,105,111,110,95,114,105,103,104,116]⟩⟩ 0 (.none) (.none)), ⟨[]⟩⟩
noncomputable def fo_323 (_ : Params) : Obj := ⟨.type "code", none, .fields ⟨[.str ⟨⟨[95,108,97,119,95,100,105,118,105,115,105,111,110,95,114,105,103,104,116]⟩⟩ 591, .str ⟨⟨[95,108,97,119,95,100,105,118,105,115,105,111,110,95,114,105,103,104,116]⟩⟩ 592, .str ⟨⟨[47,99,108,97,105,109,47,99,117,116,46,112,121]⟩⟩ 593, .int 199 0, .int 2 0, .int 0 0, .int 0 0, .int 3 0, .ref 318, .bool true, .int 181 0, .ref 319, .none, .ref 320, .ref 321, .ref 322, .int 599 0, .int 199 0, .str ⟨⟨[47,99,108,97,105,109,47,99,117,116,46,112,121]⟩⟩ 600]⟩, ⟨[]⟩⟩
noncomputable def fo_324 (_ : Params) : Obj := ⟨.type "function", none, .func (fT (stT 52) ⟨⟨[95,108,97,119,95,100,105,118,105,115,105,111,110,95,114,105,103,104,116]⟩⟩ ⟨⟨[95,108,97,119,95,100,105,118,105,115,105,111,110,95,114,105,103,104,116]⟩⟩ 3 (.str ⟨⟨[108,97,119,95,112,113,48,49,56,57,95,48,49]⟩⟩ 487) (.ref 323)), ⟨[]⟩⟩
noncomputable def fo_325 (_ : Params) : Obj := ⟨.type "tuple", none, .seq ⟨[]⟩ 0, ⟨[]⟩⟩
noncomputable def fo_326 (_ : Params) : Obj := ⟨.none, none, .fields ⟨[]⟩, ⟨[]⟩⟩
noncomputable def fo_327 (_ : Params) : Obj := ⟨.none, none, .func (fT (stT 53) ⟨⟨[108,97,119]⟩⟩ ⟨⟨[108,97,119]⟩⟩ 0 (.none) (.none)), ⟨[]⟩⟩
noncomputable def fo_328 (_ : Params) : Obj := ⟨.type "code", none, .fields ⟨[.str ⟨⟨[108,97,119]⟩⟩ 602, .str ⟨⟨[108,97,119]⟩⟩ 603, .str ⟨⟨[47,99,108,97,105,109,47,99,117,116,46,112,121]⟩⟩ 604, .int 207 0, .int 1 0, .int 0 0, .int 0 0, .int 3 0, .ref 325, .bool true, .int 181 0, .ref 326, .none, .none, .none, .ref 327, .int 605 0, .int 207 0, .str ⟨⟨[47,99,108,97,105,109,47,99,117,116,46,112,121]⟩⟩ 606]⟩, ⟨[]⟩⟩
noncomputable def fo_329 (_ : Params) : Obj := ⟨.type "function", none, .func (fT (stT 53) ⟨⟨[108,97,119]⟩⟩ ⟨⟨[108,97,119]⟩⟩ 3 (.str ⟨⟨[108,97,119,95,112,113,48,49,56,57,95,48,49]⟩⟩ 487) (.ref 328)), ⟨[]⟩⟩
noncomputable def finHeap (P : Params) : Heap := { objs := ⟨[boot_o_0 P, boot_o_1 P, fo_2 P, fo_3 P, boot_o_4 P, boot_o_5 P, boot_o_6 P, boot_o_7 P, boot_o_8 P, boot_o_9 P, boot_o_10 P, fo_11 P, fo_12 P, fo_13 P, fo_14 P, fo_15 P, fo_16 P, fo_17 P, fo_18 P, fo_19 P, fo_20 P, fo_21 P, fo_22 P, fo_23 P, fo_24 P, fo_25 P, fo_26 P, fo_27 P, fo_28 P, fo_29 P, fo_30 P, fo_31 P, fo_32 P, fo_33 P, fo_34 P, fo_35 P, fo_36 P, fo_37 P, fo_38 P, fo_39 P, fo_40 P, fo_41 P, fo_42 P, fo_43 P, fo_44 P, fo_45 P, fo_46 P, fo_47 P, fo_48 P, fo_49 P, fo_50 P, fo_51 P, fo_52 P, fo_53 P, fo_54 P, fo_55 P, fo_56 P, fo_57 P, fo_58 P, fo_59 P, fo_60 P, fo_61 P, fo_62 P, fo_63 P, fo_64 P, fo_65 P, fo_66 P, fo_67 P, fo_68 P, fo_69 P, fo_70 P, fo_71 P, fo_72 P, fo_73 P, fo_74 P, fo_75 P, fo_76 P, fo_77 P, fo_78 P, fo_79 P, fo_80 P, fo_81 P, fo_82 P, fo_83 P, fo_84 P, fo_85 P, fo_86 P, fo_87 P, fo_88 P, fo_89 P, fo_90 P, fo_91 P, fo_92 P, fo_93 P, fo_94 P, fo_95 P, fo_96 P, fo_97 P, fo_98 P, fo_99 P, fo_100 P, fo_101 P, fo_102 P, fo_103 P, fo_104 P, fo_105 P, fo_106 P, fo_107 P, fo_108 P, fo_109 P, fo_110 P, fo_111 P, fo_112 P, fo_113 P, fo_114 P, fo_115 P, fo_116 P, fo_117 P, fo_118 P, fo_119 P, fo_120 P, fo_121 P, fo_122 P, fo_123 P, fo_124 P, fo_125 P, fo_126 P, fo_127 P, fo_128 P, fo_129 P, fo_130 P, fo_131 P, fo_132 P, fo_133 P, fo_134 P, fo_135 P, fo_136 P, fo_137 P, fo_138 P, fo_139 P, fo_140 P, fo_141 P, fo_142 P, fo_143 P, fo_144 P, fo_145 P, fo_146 P, fo_147 P, fo_148 P, fo_149 P, fo_150 P, fo_151 P, fo_152 P, fo_153 P, fo_154 P, fo_155 P, fo_156 P, fo_157 P, fo_158 P, fo_159 P, fo_160 P, fo_161 P, fo_162 P, fo_163 P, fo_164 P, fo_165 P, fo_166 P, fo_167 P, fo_168 P, fo_169 P, fo_170 P, fo_171 P, fo_172 P, fo_173 P, fo_174 P, fo_175 P, fo_176 P, fo_177 P, fo_178 P, fo_179 P, fo_180 P, fo_181 P, fo_182 P, fo_183 P, fo_184 P, fo_185 P, fo_186 P, fo_187 P, fo_188 P, fo_189 P, fo_190 P, fo_191 P, fo_192 P, fo_193 P, fo_194 P, fo_195 P, fo_196 P, fo_197 P, fo_198 P, fo_199 P, fo_200 P, fo_201 P, fo_202 P, fo_203 P, fo_204 P, fo_205 P, fo_206 P, fo_207 P, fo_208 P, fo_209 P, fo_210 P, fo_211 P, fo_212 P, fo_213 P, fo_214 P, fo_215 P, fo_216 P, fo_217 P, fo_218 P, fo_219 P, fo_220 P, fo_221 P, fo_222 P, fo_223 P, fo_224 P, fo_225 P, fo_226 P, fo_227 P, fo_228 P, fo_229 P, fo_230 P, fo_231 P, fo_232 P, fo_233 P, fo_234 P, fo_235 P, fo_236 P, fo_237 P, fo_238 P, fo_239 P, fo_240 P, fo_241 P, fo_242 P, fo_243 P, fo_244 P, fo_245 P, fo_246 P, fo_247 P, fo_248 P, fo_249 P, fo_250 P, fo_251 P, fo_252 P, fo_253 P, fo_254 P, fo_255 P, fo_256 P, fo_257 P, fo_258 P, fo_259 P, fo_260 P, fo_261 P, fo_262 P, fo_263 P, fo_264 P, fo_265 P, fo_266 P, fo_267 P, fo_268 P, fo_269 P, fo_270 P, fo_271 P, fo_272 P, fo_273 P, fo_274 P, fo_275 P, fo_276 P, fo_277 P, fo_278 P, fo_279 P, fo_280 P, fo_281 P, fo_282 P, fo_283 P, fo_284 P, fo_285 P, fo_286 P, fo_287 P, fo_288 P, fo_289 P, fo_290 P, fo_291 P, fo_292 P, fo_293 P, fo_294 P, fo_295 P, fo_296 P, fo_297 P, fo_298 P, fo_299 P, fo_300 P, fo_301 P, fo_302 P, fo_303 P, fo_304 P, fo_305 P, fo_306 P, fo_307 P, fo_308 P, fo_309 P, fo_310 P, fo_311 P, fo_312 P, fo_313 P, fo_314 P, fo_315 P, fo_316 P, fo_317 P, fo_318 P, fo_319 P, fo_320 P, fo_321 P, fo_322 P, fo_323 P, fo_324 P, fo_325 P, fo_326 P, fo_327 P, fo_328 P, fo_329 P]⟩ }
noncomputable abbrev fin (w : World) (os : OsState) : Shared := ⟨finHeap w.params, Array.mk [], boot_drawn, 608, os⟩
/-- the top's run, over a tree -/
noncomputable def topX (st : SharedT → Thread → Option (SharedT × Thread)) (n₀ : Nat) (ann : Option Value) : Nat → SharedT → Thread → Option SharedT
  | 0, _, _ => none
  | n + 1, s, t => match through t with
    | true => some s
    | false => match stepOk n₀ ann t with
      | false => none
      | true => match st s t with
        | some (s', t') => topX st n₀ ann n s' t'
        | none => none
theorem topX_of {tb : String → Option Builtin} {p : Program} {w : World} {n₀ : Nat} {ann : Option Value} {n : Nat} : ∀ {s s' : SharedT} {t : Thread}, topX (stepT (denote tb) p w) n₀ ann n s t = some s' → topRun tb p w n₀ ann n s.abs t = some s'.abs := by
  induction n with
  | zero => intro s s' t h; exact no h
  | succ n ih =>
    intro s s' t h
    unfold topX at h
    unfold topRun
    cases ht : through t with
    | true => rw [ht] at h; obtain rfl := Option.some.inj h; rfl
    | false =>
      rw [ht] at h
      cases hk : stepOk n₀ ann t with
      | false => rw [hk] at h; exact no h
      | true =>
        rw [hk] at h
        cases hs : stepT (denote tb) p w s t with
        | none => rw [hs] at h; exact no h
        | some r => rw [hs] at h; show _ = some s'.abs; rw [stepT_spec (s' := r.1) (t' := r.2) hs]; exact ih h
noncomputable def bootT (P : Params) : BT := ((((((((((BT.nil.ins 0 (boot_o_0 P)).ins 1 (boot_o_1 P)).ins 2 (boot_o_2 P)).ins 3 (boot_o_3 P)).ins 4 (boot_o_4 P)).ins 5 (boot_o_5 P)).ins 6 (boot_o_6 P)).ins 7 (boot_o_7 P)).ins 8 (boot_o_8 P)).ins 9 (boot_o_9 P)).ins 10 (boot_o_10 P)
theorem bootT_abs (P : Params) : absHeap (bootT P) 11 (boot_heap P).life = boot_heap P := by rfl

theorem run1 : ∀ (w : World), (fun os => (topX (PySem.W.Fast.tw10156331382660048174 (PySem.W.Fast.tw11892475500146522536 PySem.W.Fast.tw14364793385576792824) pT w) 11 (some (.ref 6)) 3422 ⟨bootT w.params, 11, (boot_heap w.params).life, Array.mk [], boot_drawn, boot_toks, os⟩ (topStub pT)).map SharedT.abs) = fun os => some (fin w os) := by
  intro w
  kernel_rfl

theorem look0 : ∀ (w : World), (fun os : OsState => (PySem.W.Fast.tw5160383126252970620 (R.mapR (fun x => x.name) (PySem.W.Fast.tw3399658132070893891 q)) (PySem.W.Fast.tw5991557255702980513 q) [] { heap := (fin w os).heap, gens := #[], drawn := (fin w os).drawn, toks := (fin w os).toks, os := (fin w os).os })) = fun _ => (expectedOf q) := by intro w; kernel_rfl
theorem look1 : ∀ (w : World), (fun os : OsState => ((fin w os).heap.bltView)) = fun _ => (bltViewBooted) := by intro w; kernel_rfl
theorem look2 : ∀ (w : World), (fun os : OsState => (PySem.W.Fast.tw10880121769531294198 (fin w os).heap (PySem.W.Fast.tw821141287760084731 q []) (R.mapR (fun x => x.name) (PySem.W.Fast.tw3399658132070893891 q)) (R.mapR (fun x => x.fst) (PySem.W.Fast.tw7409074990110511671 q)) (R.mapR (fun x => x.name) (PySem.W.Fast.tw13664370479719496447 q (PySem.W.Fast.tw821141287760084731 q []))) && PySem.W.Fast.tw14722251495701143533 (fin w os).heap (PySem.W.Fast.tw5923862056798008813 pT.main.body) && (fin w os).heap.isNs mainGlobals && (fin w os).heap.isNs builtinsNs && PySem.W.Fast.tw10994771534591457954 q (fin w os).heap && (fun s => xlAt q [] s && recOk [] s) (fin w os) && (if true = true then (fin w os).gens.size == 0 else !leftWithCleanup (fin w os).gens))) = fun _ => (true) := by intro w; kernel_rfl
theorem look3 : ∀ (w : World), (fun os : OsState => (PySem.W.Fast.tw479339242167458305 q (fin w os))) = fun _ => (true) := by intro w; kernel_rfl
theorem look4 : ∀ (w : World), (fun os : OsState => (PySem.W.Fast.tw16090120013241838585 q (PySem.W.Fast.tw3247288618530077131 q) (fin w os))) = fun _ => (pinGoodD (drecsOf q)) := by intro w; kernel_rfl
theorem look5 : ∀ (w : World), (fun os : OsState => (PySem.W.Fast.tw2386780881361962483 q (PySem.W.Fast.tw821141287760084731 q []) (fin w os))) = fun _ => (plainGoodE q (looseW q [])) := by intro w; kernel_rfl
theorem look6 : ∀ (w : World), (fun os : OsState => (PySem.W.Fast.tw11698064438423848299 q [] (fin w os))) = fun _ => (plainGoodD q []) := by intro w; kernel_rfl
theorem look7 : ∀ (w : World), (fun os : OsState => (PySem.W.Fast.tw7317090234206586261 q (fin w os))) = fun _ => (wideGood q) := by intro w; kernel_rfl
theorem look8 : ∀ (w : World), (fun os : OsState => (PySem.W.Fast.tw7369524293546568484 q [] (fin w os))) = fun _ => (clsGoodW q []) := by intro w; kernel_rfl
theorem look9 : ∀ (w : World), (fun os : OsState => (hk.obs (fin w os))) = fun _ => (hk.val w) := by intro w; kernel_rfl
theorem look10 : ∀ (w : World), (fun os : OsState => (staticsOk (PySem.W.Fast.tw5923862056798008813 pT.main.body) (boot_heap w.params) (fin w os).heap && namesBound pT (fin w os).heap && gensDone (fin w os) && laidKept (boot_heap w.params) (fin w os).heap)) = fun _ => (true) := by intro w; kernel_rfl
theorem seenT (w : World) (os : OsState) : PySem.W.Fast.tw4187177175401517315 q [] (PySem.W.Fast.tw5923862056798008813 pT.main.body) (fun s => xlAt q [] s && recOk [] s) true (fin w os) = ((PySem.W.Fast.tw5160383126252970620 (R.mapR (fun x => x.name) (PySem.W.Fast.tw3399658132070893891 q)) (PySem.W.Fast.tw5991557255702980513 q) [] { heap := (fin w os).heap, gens := #[], drawn := (fin w os).drawn, toks := (fin w os).toks, os := (fin w os).os }), ((fin w os).heap.bltView), (PySem.W.Fast.tw10880121769531294198 (fin w os).heap (PySem.W.Fast.tw821141287760084731 q []) (R.mapR (fun x => x.name) (PySem.W.Fast.tw3399658132070893891 q)) (R.mapR (fun x => x.fst) (PySem.W.Fast.tw7409074990110511671 q)) (R.mapR (fun x => x.name) (PySem.W.Fast.tw13664370479719496447 q (PySem.W.Fast.tw821141287760084731 q []))) && PySem.W.Fast.tw14722251495701143533 (fin w os).heap (PySem.W.Fast.tw5923862056798008813 pT.main.body) && (fin w os).heap.isNs mainGlobals && (fin w os).heap.isNs builtinsNs && PySem.W.Fast.tw10994771534591457954 q (fin w os).heap && (fun s => xlAt q [] s && recOk [] s) (fin w os) && (if true = true then (fin w os).gens.size == 0 else !leftWithCleanup (fin w os).gens)), (PySem.W.Fast.tw479339242167458305 q (fin w os)), (PySem.W.Fast.tw16090120013241838585 q (PySem.W.Fast.tw3247288618530077131 q) (fin w os)), (PySem.W.Fast.tw2386780881361962483 q (PySem.W.Fast.tw821141287760084731 q []) (fin w os)), (PySem.W.Fast.tw11698064438423848299 q [] (fin w os)), (PySem.W.Fast.tw7317090234206586261 q (fin w os)), (PySem.W.Fast.tw7369524293546568484 q [] (fin w os))) := rfl
theorem goodT : openGood q [] = ((expectedOf q), (bltViewBooted), (true), (true), (pinGoodD (drecsOf q)), (plainGoodE q (looseW q [])), (plainGoodD q []), (wideGood q), (clsGoodW q [])) := rfl
theorem looksT (w : World) (os : OsState) : PySem.W.Fast.tw4187177175401517315 q [] (PySem.W.Fast.tw5923862056798008813 pT.main.body) (fun s => xlAt q [] s && recOk [] s) true (fin w os) = openGood q [] := by rw [seenT, goodT]; exact looks_pair (congrFun (look0 w) os) (looks_pair (congrFun (look1 w) os) (looks_pair (congrFun (look2 w) os) (looks_pair (congrFun (look3 w) os) (looks_pair (congrFun (look4 w) os) (looks_pair (congrFun (look5 w) os) (looks_pair (congrFun (look6 w) os) (looks_pair (congrFun (look7 w) os) (congrFun (look8 w) os))))))))
end
end Mine

set_option maxRecDepth 100000
namespace Mine

theorem bootAbs (w : World) (os : OsState) : SharedT.abs ⟨bootT w.params, 11, (boot_heap w.params).life, Array.mk [], boot_drawn, boot_toks, os⟩ = ⟨boot_heap w.params, Array.mk [], boot_drawn, boot_toks, os⟩ := by
  show (⟨absHeap (bootT w.params) 11 (boot_heap w.params).life, Array.mk [], boot_drawn, boot_toks, os⟩ : Shared) = _
  rw [bootT_abs]
theorem run2 (w : World) (os : OsState) : topRun treeTable PySem.Challenge.pw_pq0189_01 w 11 (some (.ref 6)) 3422 ⟨boot_heap w.params, Array.mk [], boot_drawn, boot_toks, os⟩ (topStub PySem.Challenge.pw_pq0189_01) = some (fin w os) := by
  have h := congrFun (run1 w) os
  obtain ⟨s', h1, h2⟩ := Option.map_eq_some_iff.mp h
  rw [← PySem.W.Fast.te10156331382660048174, ← PySem.W.Fast.te11892475500146522536, ← PySem.W.Fast.te14364793385576792824] at h1
  have r := topX_of h1
  rw [bootAbs, h2] at r
  exact r
theorem look10' (w : World) (os : OsState) : (staticsOk (importedModules PySem.Challenge.pw_pq0189_01.main.body) (boot_heap w.params) (finHeap w.params) && namesBound PySem.Challenge.pw_pq0189_01 (finHeap w.params) && gensDone (fin w os) && laidKept (boot_heap w.params) (finHeap w.params)) = true := by
  have h := congrFun (look10 w) os
  rw [← PySem.W.Fast.te5923862056798008813] at h
  exact h
theorem looks' (w : World) (os : OsState) : openSeen q [] (importedModules PySem.Challenge.pw_pq0189_01.main.body) (fun s => xlAt q [] s && recOk [] s) true (fin w os) = openGood q [] := by
  have h := looksT w os
  rw [← PySem.W.Fast.te4187177175401517315, ← PySem.W.Fast.te5923862056798008813] at h
  exact h

theorem left : LeftO PySem.Challenge.pw_pq0189_01 q [] (fun s => xlAt q [] s && recOk [] s) hk.obs hk.val 3422 :=
  LeftO.of_pieces (H₀ := boot_heap) (H₁ := finHeap) (gs₀ := Array.mk []) (gs₁ := Array.mk []) (d₀ := boot_drawn) (d₁ := boot_drawn) (k₀ := boot_toks) (k₁ := 608) (m₀ := 11) (ann := some (.ref 6)) (M := 3422)
    (boot_open (by kernel_rfl) (by decide) fun s => rfl) (fun w => by kernel_rfl) run2 (by decide)
    fun w => funext fun os => looks_pair (look10' w os) (looks_pair (looks' w os) (congrFun (look9 w) os))

theorem recs_eq : recsOf q = idxs.map recD := by kernel_rfl

theorem ns_some {K : Frag} {h : Heap} {N : Addr} {m : Str → Option Value} {n : Str} {v : Value} (X : K.In h) (G : h.Ns N m) (e : nsIn K N n = some (some v)) : m n = some v := by
  obtain ⟨o, es, ep, ho, hd, _, hf⟩ := G
  unfold nsIn at e
  split at e
  · rename_i c d es' n' sl q
    have := X _ _ q
    rw [ho] at this
    cases this
    cases hd
    split at e
    · rename_i en he
      cases e
      rw [← hf]
      unfold nsFind findBy
      rw [← Array.find?_toList, he]
      rfl
    · split at e <;> cases e
  · cases e

theorem ns_same {h : Heap} {a : Addr} {m m' : Str → Option Value} (x : h.Ns a m) (y : h.Ns a m') (n : Str) : m n = m' n := by
  obtain ⟨o1, es, ep, p1, p2, p3, p4⟩ := x
  obtain ⟨o2, es2, ep2, r1, r2, r3, r4⟩ := y
  rw [p1] at r1; cases r1
  rw [p2] at r2; cases r2
  exact (p4 n).symm.trans (r4 n)
theorem says_R0 {w : World} {h : Heap} {mg : Str → Option Value} (Y : hk.says w h) (G : h.Ns mainGlobals mg) : mg "R0" = some (.ref 49) := by
  obtain ⟨-, m, a, b, -, -⟩ := Y
  exact (ns_same G a _).trans b
theorem says_R1 {w : World} {h : Heap} {mg : Str → Option Value} (Y : hk.says w h) (G : h.Ns mainGlobals mg) : mg "R1" = some (.ref 50) := by
  obtain ⟨-, m, a, -, b, -⟩ := Y
  exact (ns_same G a _).trans b
theorem says_Cas {w : World} {h : Heap} {mg : Str → Option Value} (Y : hk.says w h) (G : h.Ns mainGlobals mg) : mg "CasFail" = some (.ref 31) := by
  obtain ⟨-, m, a, -, -, b⟩ := Y
  exact (ns_same G a _).trans b

noncomputable def outer : List Str := ["range", "reversed", "enumerate", "len", "abs", "max", "list", "Exception"]
theorem outer_free : (outer.all fun x => !startupNames.contains x && !(looseW q []).contains x && !((recsOf q).map (·.name)).contains x && !((litsOf q).map (·.1)).contains x && !((clssOf q (looseW q [])).map (·.name)).contains x) = true := by kernel_rfl
theorem free_of {mean : ExcName → Option Value} {mg mb : Str → Option Value} {h : Heap} (T : Top q (looseW q []) mean mg mb h) {x : Str} (hx : x ∈ outer) : mg x = none := by
  have := List.all_eq_true.mp outer_free x hx
  simp only [Bool.and_eq_true, Bool.not_eq_true'] at this
  obtain ⟨⟨⟨⟨a, b⟩, c⟩, d⟩, e⟩ := this
  have k : ∀ {l : List Str}, l.contains x = false → x ∉ l := fun h m => by rw [List.contains_iff_mem.mpr m] at h; cases h
  exact T.free x (k a) (k b) (k c) (k d) (k e)
theorem seers : importsNone q = true := by kernel_rfl

section
variable {prog : Program} {w : World} {h : Heap} {mg mb : Str → Option Value} {mean : ExcName → Option Value}

theorem env0 (Y : hk.says w h) (T : Top q (looseW q []) mean mg mb h) (ht : (model prog w).prog.given.tree = none) : Env0 ⟨prog, w, h, mg, mb⟩ where
  ok := {
    hg := T.g
    hb := T.b
    lim := T.nolimit
    seer := T.seer seers
    tree := ht
    r0 := ⟨49, 241, 242, says_R0 Y T.g, _, Y.1 49 { cls := .type "tuple", data := .seq #[.int 0 241, .int 1 242] } (by kernel_rfl)⟩
    r1 := ⟨50, 244, 245, says_R1 Y T.g, _, Y.1 50 { cls := .type "tuple", data := .seq #[.int 1 244, .int 1 245] } (by kernel_rfl)⟩
    range := ⟨free_of T (by decide), (T.builtins _ (by decide)).trans (by kernel_rfl)⟩
    reversed := ⟨free_of T (by decide), (T.builtins _ (by decide)).trans (by kernel_rfl)⟩
    enumerate := ⟨free_of T (by decide), (T.builtins _ (by decide)).trans (by kernel_rfl)⟩ }
  defs := fun i hi => by
    obtain ⟨a, o, pm, code, doc, h1, h2, h3, h4⟩ := T.fn (recD i) (by rw [recs_eq]; exact List.mem_map_of_mem hi)
    exact ⟨a, o, pm, code, doc, h1, h2, h3, h4⟩
  len := ⟨free_of T (by decide), (T.builtins _ (by decide)).trans (by kernel_rfl)⟩
  abs := ⟨free_of T (by decide), (T.builtins _ (by decide)).trans (by kernel_rfl)⟩
  max := ⟨free_of T (by decide), (T.builtins _ (by decide)).trans (by kernel_rfl)⟩
  list := ⟨free_of T (by decide), (T.builtins _ (by decide)).trans (by kernel_rfl)⟩

theorem initOk : (∀ x ∈ (["self", "kind", "text"] : List Str), initScope.names.lookup x = some .local ∨ initScope.names.lookup x = some .cell) := by decide +kernel
theorem initBind (vals : List Value) (h : vals.length = (["self", "kind", "text"] : List Str).length) : bindArgs fdI ⟨vals, []⟩ = pure ((["self", "kind", "text"] : List Str).zip vals) := by
  obtain ⟨a, b, c, rfl⟩ := len3 h
  rfl

theorem cas0 (Y : hk.says w h) (T : Top q (looseW q []) mean mg mb h) : CasOk ⟨prog, w, h, mg, mb⟩ 31 30 28 fdI where
  cls := ⟨"CasFail", "CasFail", [.type "Exception"], [], [], false, none, none, some (.ref 15), none, some (.str "CasFail" 189), some (.str "CasFail" 197), some (.bool true), Y.1 _ _ (by kernel_rfl)⟩
  ns := by
    have G : h.Ns 30 (h.nsMap 30) := .of_isNs (isNs_of_in Y.1 (by kernel_rfl))
    exact ⟨_, G, ns_some Y.1 G (by kernel_rfl), ns_none_of Y.1 G (by kernel_rfl), ns_none_of Y.1 G (by kernel_rfl), ns_none_of Y.1 G (by kernel_rfl), ns_none_of Y.1 G (by kernel_rfl), ns_none_of Y.1 G (by kernel_rfl)⟩
  fn := ⟨{ cls := .type "function", data := .func fdI }, Y.1 _ _ (by kernel_rfl), rfl, rfl⟩
  F := {
    ob := ⟨{ cls := .type "function", data := .func fdI }, Y.1 _ _ (by kernel_rfl), rfl⟩
    code := codeRec_of Y.1 (by kernel_rfl)
    body := rfl
    clo := rfl
    globals := rfl
    builtins := rfl
    co := rfl
    gen := rfl
    kind := rfl
    nodup := by decide
    bind := initBind
    kinds := initOk
    cells := fun n x hx => cells_some _ _ _ (.inl (mem_of_lookup hx))
    dbg := by rfl
    cdt := by rfl }
  sc := rfl
  exc := ⟨free_of T (by decide), (T.builtins _ (by decide)).trans (by kernel_rfl)⟩
  glob := says_Cas Y T.g
end
theorem intsAre_len {vs : List Value} {ns : List Int} (h : IntsAre vs ns) : vs.length = ns.length := by
  induction h with
  | nil => rfl
  | cons n t _ ih => simp [ih]

set_option maxRecDepth 100000 in
set_option maxHeartbeats 4000000 in
theorem finish {prog : Program} {w : World} {h : Heap} {mg mb : Str → Option Value} {mean : ExcName → Option Value} (Y : hk.says w h) (T : Top q (looseW q []) mean mg mb h) (ht : (model prog w).prog.given.tree = none)
    {env : Env} (e1 : env.scope = scopeAt 53) (e2 : env.globals = mainGlobals) (e3 : env.builtins = builtinsNs) (e4 : env.cells = []) (e5 : env.frame = some env.locals) (e6 : env.locals = h.objs.size)
    {s : Shared} {m : Str → Option Value} (F : Fr h h.objs.size s.heap m) {a : Addr} (hm : m "script" = some (.ref a)) {vs : List Value} {ns : List Int} (hl : h.IsList a vs.toArray) (hlen : ns.length ≤ 1000) (hi : IntsAre vs ns) {E : Value → Shared → Prop} {Q : Flow → Shared → Prop}
    (hQ : ∀ s', (∃ m', Fr h h.objs.size s'.heap m') → s'.gens = s.gens → s'.os = s.os → Q (.ret (.bool true)) s') : wpAny (model prog w) (callerA.deeper env) (execs (bodyAt 53) env) Q E s := by
  have E0 := env0 Y T ht
  obtain ⟨n, hn, hT, fD, hD, hDk, hW⟩ := chain E0 (cas0 Y T)
  have L : LawEnv ⟨prog, w, h, mg, mb⟩ n (callerA.deeper env) env := {
    room := ⟨rfl, by show 302 + n ≤ 600; omega, by show 4 + 3 + 8 * n ≤ 9000; omega, _, rfl⟩
    fr := rfl
    scope := e1, globals := e2, builtins := e3, cells := e4, frame := e5
    LB := by
      rw [e6]
      show h.get? _ = none
      cases z : h.get? h.objs.size with
      | none => rfl
      | some o => exact absurd (Heap.lt_size z) (Nat.lt_irrefl _) }
  have hns : s.heap.Ns env.locals m := by rw [e6]; exact F.ns
  refine wpAny_mono (law_ok E0.ok E0.ok.seer hT E0.list hD hDk hW L hns hm F.keep (let ⟨o, q1, q2⟩ := hl; ⟨o, F.keep _ _ q1, q2⟩) (by rw [intsAre_len hi]; exact hlen) hi) (fun f s' hf => ?_) fun _ _ z => z.elim
  obtain ⟨rfl, ⟨m', hm'⟩, hb, h', tk, rfl⟩ := hf
  exact hQ _ ⟨m', by rw [e6] at hm'; exact hm', hb, Nat.le_refl _⟩ rfl rfl
end Mine

namespace Mine
set_option maxRecDepth 100000
theorem defLaw : defOf q (Str.ofString "law") = some (recD 53, []) := by kernel_rfl
theorem theDefLaw : PySem.Challenge.pw_pq0189_01.theDef (Str.ofString "law") = some ((recD 53).params, (recD 53).body, (recD 53).scope) := by kernel_rfl
theorem kwLaw : kwWritten? (recD 53).params.kwonlyargs (recD 53).params.kw_defaults = some [] := by kernel_rfl
theorem okLaw : (chainsOk q && opensWell PySem.Challenge.pw_pq0189_01) = true := by kernel_rfl
set_option maxHeartbeats 4000000 in
theorem row : PySem.Challenge.rw_pq0189_01.Holds := by
  refine holds_law said fun said' => ?_
  refine holds_open (d := recD 53) (kwd := []) (q := q) (loose := []) (Xt := fun s => xlAt q [] s && recOk [] s) (XP := XL q []) (Yf := Hook.obs hk) (Ya := Hook.val hk) (YP := Hook.says hk) (N := 3422) left (Hook.of hk) (Hook.keeps hk) ?a3 ?a4 defLaw theDefLaw kwLaw ?a8 ?a9 said' ?a11 ?a12 ?hw ?hc
  case a3 => exact fun s e => xl_of s (Bool.and_eq_true_iff.mp e).1
  case a4 => exact XL.keeps
  case a8 => exact fun s e => recFacts_of (Bool.and_eq_true_iff.mp e).2
  case a9 => rfl
  case a11 => kernel_rfl
  case a12 => exact ⟨rfl, rfl, rfl, rfl, rfl, by kernel_rfl⟩
  case hw => w_witness2
  case hc =>
    w_on
    intro w s₀ s₁ mg mb G Y fa o pm cd doc dV kV ho hd hcd hD hmg hg args vals as hpre hlay hrd hwl hlo
    have X := G.X.1
    have V := G.X.2
    refine Ground.open G ?_
    intro T B D TE TW
    try (refine guard_noD D (by decide +kernel) ?_; clear D)
    obtain ⟨_, _, M⟩ := bmod_of_top T
    have TA := at_of_top T
    obtain ⟨_, _, he, B0⟩ := based_of_top T rfl hmg ho hd
    have he' : cd = _ := he
    subst he'
    clear he
    clear hmg
    wrow_args hpre hlay hrd hwl hlo
    refine enter_call ?_
    w_top on
    try refine codeAny_mono ?_ (fun _ _ g => GoodW.toG g)
    have K0 := below_caller (Top.heap T)
    w_call any ho hd hcd hD T F
    clear hd TA
    k_drop
    rename_i a9 a8 a7 a6 ns hs hlay0 hLl hr hl2 a4 a3 la vs a0 hL ra w1 r0 hI hr2 hc1 hc2 h₁ N0
    refine finish Y T ?_ ?_ ?_ ?_ ?_ ?_ ?_ F (a := la) ?_ hL ?_ hI fun s' hF hgens hos => ?_
    · rfl
    · rfl
    · rfl
    · rfl
    · rfl
    · rfl
    · rfl
    · rfl
    · omega
    · obtain ⟨m', hF⟩ := hF
      exact goodW_bool hF (hgens.trans hg) (fun _ => rfl) (by kc_post) hos
end Mine

theorem PySem.Challenge.cw_pq0189_01_holds : PySem.Challenge.rw_pq0189_01.Holds :=
  Mine.row
