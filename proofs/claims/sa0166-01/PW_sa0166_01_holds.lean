import PyProof.Rows.All

import OpenK.KSplit
import OpenK.KNot
import OpenK.KApp
import KE.KPop
import KE.KSlice
import KE.RegLcTurns
import KE.KTup
import KE.KSetInts
import KE.KTree
import KE.KDictAnyGet
import KE.KAnyBase
import KE.KWhile
import KE.KDictList
import KE.KPopAny
import KE.KCompFold
import KE.RegKIsAll
import KE.KSetAt
import KE.KTextTable
import KE.KItem
import KE.RegKDeep
import KE.IntBitsLaws
import KE.KLooksOwn
import KE.KCallBy
import KE.KLcFree
import KE.KEndW
import Wide.FinOn
import Lean
import PySem.Challenge.RW_sa0166_01
open PySem PySem.W PyProof.Rows
set_option Elab.async false
set_option maxRecDepth 100000
set_option maxHeartbeats 8000000
local macro_rules | `(tactic| walk_at $s:str) => do let t := Lean.Syntax.mkStrLit ("W " ++ s.getString); `(tactic| k_extra $t)
namespace Mine
def Hid (P : Prop) : Prop := P
theorem hidE {P : Prop} (h : Hid P) : P := h
theorem hidL {hidP9 : Prop} (hidh9 : hidP9) : Hid hidP9 = True := eq_true hidh9
theorem hidW {hidP9 : Prop} (hidh9 : hidP9) : hidP9 := hidh9
section
local macro_rules | `(tactic| o_head $_) => `(tactic| assumption)
theorem mk (h : OpenRow.Holds PySem.Challenge.rw_sa0166_01.row) : OpenRow.Holds PySem.Challenge.rw_sa0166_01.row := by k_head
end
end Mine
namespace Mine
open PySem PySem.Calls PyProof.Rows PySem.Spec
abbrev Led := List (Addr × Obj)
noncomputable abbrev tupOf (vs : List Value) : Obj := { cls := .type "tuple", data := .seq vs.toArray }
theorem uK (A : Around) (C : Addr) (vals : List Value) (kw : List (Str × Value)) : (A.under (.builtin "type.__call__" ⟨.ref C :: vals, kw⟩)).units = A.units + 1 := rfl
theorem rlim : recursionLimit = 1000 := rfl
/-- two entries lie apart, or one is a tuple (which nobody changes) -/
noncomputable def kd (o : Obj) : Value := match o.data with | .cell _ => .none | _ => o.cls
theorem kd_cls {o : Obj} (h : kd o = .type "tuple") : o.cls = .type "tuple" := by
  unfold kd at h
  split at h
  · cases h
  · exact h
def Ap (p q : Addr × Obj) : Prop := kd p.2 = .type "tuple" ∨ kd q.2 = .type "tuple" ∨ p.1 ≠ q.1
def Dm (l : Led) : Prop := l.Pairwise Ap
def TupL (l : Led) : Prop := ∀ p ∈ l, kd p.2 = .type "tuple"
theorem Ap.symm {p q : Addr × Obj} (h : Ap p q) : Ap q p := by
  rcases h with h | h | h
  · exact .inr (.inl h)
  · exact .inl h
  · exact .inr (.inr (Ne.symm h))
theorem Dm.perm {l l' : Led} (p : l.Perm l') (h : Dm l) : Dm l' := p.pairwise h fun {_ _} => Ap.symm
/-- the part P lies in the ledger; the rest is R -/
def Rot (P l R : Led) : Prop := l.Perm (P ++ R)
theorem Rot.here {P R : Led} : Rot P (P ++ R) R := List.Perm.refl _
theorem Rot.whole {P : Led} : Rot P P [] := by rw [Rot, List.append_nil]
theorem Rot.last {P Q : Led} : Rot P (Q ++ P) Q := List.perm_append_comm
theorem Rot.one' {x : Addr × Obj} {l : Led} : Rot [x] (x :: l) l := List.Perm.refl _
theorem Rot.skip {P l R : Led} {x : Addr × Obj} (h : Rot P l R) : Rot P (x :: l) (x :: R) := (List.Perm.cons _ h).trans List.perm_middle.symm
theorem Rot.app {P Q l R : Led} (h : Rot P l R) : Rot P (Q ++ l) (Q ++ R) := (List.Perm.append_left Q h).trans (by
  rw [← List.append_assoc, ← List.append_assoc]
  exact List.Perm.append_right R List.perm_append_comm)
theorem Rot.perm {P l R : Led} (h : Rot P l R) : l.Perm (P ++ R) := h
theorem News.perm {h₀ h : Heap} {L : Addr} {l l' : Led} (p : l.Perm l') (N : News h₀ L h l) : News h₀ L h l' := fun q hq => N q (p.mem_iff.mpr hq)
theorem News.sub {h₀ h : Heap} {L : Addr} {l l' : Led} (N : News h₀ L h l) (s : ∀ p ∈ l', p ∈ l) : News h₀ L h l' := fun p hp => N p (s p hp)
theorem News.tl {h₀ h : Heap} {L : Addr} {x : Addr × Obj} {l : Led} (N : News h₀ L h (x :: l)) : News h₀ L h l := fun p hp => N p (.tail _ hp)
theorem News.app {h₀ h : Heap} {L : Addr} {l l' : Led} (N : News h₀ L h l) (N' : News h₀ L h l') : News h₀ L h (l ++ l') := fun p hp => (List.mem_append.mp hp).elim (N p) (N' p)
theorem Rot.cons' {x : Addr × Obj} {P l R : Led} (r : Rot P l R) : Rot (x :: P) (x :: l) R := List.Perm.cons _ r
theorem Rot.nil' {l : Led} : Rot [] l l := List.Perm.refl _
/-- every entry of l lies in l' -/
def Inc (l l' : Led) : Prop := ∀ p ∈ l, p ∈ l'
theorem Inc.rfl {l : Led} : Inc l l := fun _ h => h
theorem Inc.left {l r : Led} : Inc l (l ++ r) := fun _ h => List.mem_append_left _ h
theorem Inc.skip {x : Addr × Obj} {l l' : Led} (h : Inc l l') : Inc l (x :: l') := fun p q => .tail _ (h p q)
theorem Inc.app {Q l l' : Led} (h : Inc l l') : Inc l (Q ++ l') := fun p q => List.mem_append_right _ (h p q)
theorem Inc.nil {l : Led} : Inc [] l := fun _ h => nomatch h
theorem Inc.cons {x : Addr × Obj} {l l' : Led} (hx : x ∈ l') (h : Inc l l') : Inc (x :: l) l' := fun p q => (List.mem_cons.mp q).elim (fun e => e ▸ hx) (h p)
theorem Inc.both {a b l' : Led} (h : Inc a l') (k : Inc b l') : Inc (a ++ b) l' := fun p q => (List.mem_append.mp q).elim (h p) (k p)
theorem Inc.thru {a b l' : Led} (h : Inc a b) (k : Inc b l') : Inc a l' := fun p q => k p (h p q)
theorem Inc.mem {l l' : Led} (h : Inc l l') : ∀ p ∈ l, p ∈ l' := h
/-- R is the end of l -/
def Suf (R l : Led) : Prop := ∀ q ∈ R, q ∈ l
theorem Suf.rfl {R : Led} : Suf R R := fun _ h => h
theorem Suf.skip {R l : Led} {y : Addr × Obj} (h : Suf R l) : Suf R (y :: l) := fun q m => .tail _ (h q m)
theorem Suf.app {R Q l : Led} (h : Suf R l) : Suf R (Q ++ l) := fun q m => List.mem_append_right _ (h q m)
theorem Suf.mem {R l : Led} (h : Suf R l) : ∀ q ∈ R, q ∈ l := h
/-- an entry that is no tuple lies off a part that is apart from it -/
theorem off_of {h₀ h : Heap} {L d : Addr} {o : Obj} {led R : Led} (N : News h₀ L h led) (hd : (d, o) ∈ led) (ho : o.cls ≠ .type "tuple") (hR : ∀ q ∈ R, q ∈ led) (hA : ∀ q ∈ R, Ap (d, o) q) : ∀ q ∈ R, q.1 ≠ d := by
  intro q hq e
  rcases hA q hq with h | h | h
  · exact ho (kd_cls h)
  · have h1 := (N _ hd).1
    have h2 := (N _ (hR q hq)).1
    rw [e] at h2
    have e2 : o = q.2 := Option.some.inj (h1.symm.trans h2)
    exact ho (by rw [e2]; exact kd_cls h)
  · exact h e.symm
noncomputable def key (p : Addr × Obj) : Addr × Value := (p.1, kd p.2)
theorem ap_key {p q p' : Addr × Obj} (e : key p = key p') (h : Ap p q) : Ap p' q := by
  obtain ⟨e1, e2⟩ := Prod.mk.inj e
  unfold Ap at *
  rw [← e1, ← e2]; exact h
theorem dm_of_map {l : Led} : Dm l ↔ (l.map key).Pairwise fun p q => p.2 = .type "tuple" ∨ q.2 = .type "tuple" ∨ p.1 ≠ q.1 := by
  unfold Dm; rw [List.pairwise_map]; rfl
theorem Dm.same {l l' : Led} (e : l'.map key = l.map key) (h : Dm l) : Dm l' := by rw [dm_of_map] at *; rw [e]; exact h
theorem ke_skip {x : Addr × Obj} {l' l : Led} (h : l'.map key = l.map key) : (x :: l').map key = (x :: l).map key := by rw [List.map_cons, List.map_cons, h]
theorem ke_app {Q l' l : Led} (h : l'.map key = l.map key) : (Q ++ l').map key = (Q ++ l).map key := by rw [List.map_append, List.map_append, h]
theorem ke_upd {x x' : Addr × Obj} {l' l : Led} (e : key x' = key x) (h : l'.map key = l.map key) : (x' :: l').map key = (x :: l).map key := by rw [List.map_cons, List.map_cons, e, h]
theorem Dm.sub {l l' : Led} (h : Dm l) (s : l'.Sublist l) : Dm l' := h.sublist s
theorem Dm.new {x : Addr × Obj} {l : Led} (h : Dm l) (hx : ∀ p ∈ l, p.1 < x.1) : Dm (x :: l) := List.Pairwise.cons (fun b hb => .inr (.inr (Nat.ne_of_gt (hx b hb)))) h
theorem Dm.same2 {l l' : Led} (h : Dm l) (e : l'.map key = l.map key) : Dm l' := Dm.same e h
theorem Dm.newN {h₀ h : Heap} {L d : Addr} {o : Obj} {l l0 : Led} (_N : News h₀ L h ((d, o) :: l)) (hx : ∀ p ∈ l, p.1 < d) (d0 : Dm l0) (e : l.map key = l0.map key) : Dm ((d, o) :: l) := Dm.new (Dm.same e d0) hx
theorem Dm.newN2 {h₀ h : Heap} {L d x : Addr} {o o' : Obj} {l l0 : Led} (_N : News h₀ L h ((x, o') :: (d, o) :: l)) (hx : ∀ p ∈ l, p.1 < d) (h2 : @LT.lt Nat _ d x) (d0 : Dm l0) (e : l.map key = l0.map key) : Dm ((x, o') :: (d, o) :: l) :=
  Dm.new (Dm.new (Dm.same e d0) hx) fun p hp => by
    rcases List.mem_cons.mp hp with rfl | hp
    · exact h2
    · exact Nat.lt_trans (hx p hp) h2
theorem ne_raw {d : Addr} {l R : Led} (h : ∀ p ∈ l, p.1 < d) (s : Suf R l) : ∀ p ∈ R, p.1 ≠ d := fun p hp => Nat.ne_of_lt (h p (s.mem p hp))
theorem Dm.newT {x : Addr × Obj} {l : Led} (h : Dm l) (hx : kd x.2 = .type "tuple") : Dm (x :: l) := List.Pairwise.cons (fun _ _ => .inl hx) h
theorem Dm.cons_of {x : Addr × Obj} {l : Led} (h : Dm (x :: l)) : (∀ q ∈ l, Ap x q) ∧ Dm l := List.pairwise_cons.mp h
theorem Dm.app_of {P R : Led} (h : Dm (P ++ R)) : Dm P ∧ Dm R ∧ ∀ a ∈ P, ∀ b ∈ R, Ap a b := List.pairwise_append.mp h
theorem ap_list {a b : Addr} {o o' : Obj} (h : Ap (a, o) (b, o')) (h1 : o.cls ≠ .type "tuple") (h2 : o'.cls ≠ .type "tuple") : @Ne Nat a b := by
  rcases h with h | h | h
  · exact absurd (kd_cls h) h1
  · exact absurd (kd_cls h) h2
  · exact h
theorem tupL_nil : TupL [] := fun _ h => nomatch h
theorem tupL_cons {x : Addr × Obj} {l : Led} (hx : kd x.2 = .type "tuple") (h : TupL l) : TupL (x :: l) := fun p hp => by
  rcases List.mem_cons.mp hp with rfl | hp
  · exact hx
  · exact h p hp
theorem tupL_app {a b : Led} (ha : TupL a) (hb : TupL b) : TupL (a ++ b) := fun p hp => (List.mem_append.mp hp).elim (ha p) (hb p)
/-- x stands in l, and R behind it -/
def Beh (x : Addr × Obj) (R l : Led) : Prop := (x ∈ l ∧ ∀ q ∈ R, q ∈ l) ∧ (Dm l → ∀ q ∈ R, Ap x q)
theorem Beh.here {x : Addr × Obj} {R l : Led} (h : Suf R l) : Beh x R (x :: l) := ⟨⟨.head _, fun q m => .tail _ (h q m)⟩, fun d q m => d.cons_of.1 q (h q m)⟩
theorem Beh.skip {x y : Addr × Obj} {R l : Led} (h : Beh x R l) : Beh x R (y :: l) := ⟨⟨.tail _ h.1.1, fun q m => .tail _ (h.1.2 q m)⟩, fun d => h.2 d.cons_of.2⟩
theorem Beh.app {x : Addr × Obj} {R Q l : Led} (h : Beh x R l) : Beh x R (Q ++ l) := ⟨⟨List.mem_append_right _ h.1.1, fun q m => List.mem_append_right _ (h.1.2 q m)⟩, fun d => h.2 d.app_of.2.1⟩
theorem Beh.mem {x : Addr × Obj} {R l : Led} (h : Beh x R l) : x ∈ l ∧ ∀ q ∈ R, q ∈ l := h.1
theorem Beh.ap {x : Addr × Obj} {R l : Led} (h : Beh x R l) (d : Dm l) : ∀ q ∈ R, Ap x q := h.2 d
theorem off {h₀ h : Heap} {L d : Addr} {o : Obj} {led R : Led} (N : News h₀ L h led) (dm : Dm led) (b : Beh (d, o) R led) (ho : o.cls ≠ .type "tuple") : ∀ q ∈ R, q.1 ≠ d :=
  off_of N b.mem.1 ho b.mem.2 (b.ap dm)
/-- an own exception flies: its class is PrologError's, its dict lies at dx; it has been noted in every frame that it left -/
def FliesX (base : Heap) (e dx : Addr) (h : Heap) : Prop :=
  ∃ oe vs T oT ts, h.get? e = some oe ∧ (oe.cls = .ref 51 ∧ oe.dict = some dx) ∧ oe.data = .fields vs ∧ vs[1]? = some (.ref T) ∧ base.get? T = none ∧ T ≠ e ∧ h.get? T = some oT ∧ oT.data = .fields ts ∧ ts[3]? = some .none
def Rz (base : Heap) (l : List Env) (e dx : Addr) (news : Led) (h : Heap) : Prop :=
  ∃ B, base.StaysIn B ∧ (∀ q ∈ news, B.get? q.1 = some q.2 ∧ base.get? q.1 = none) ∧ B.StaysIn h ∧ B.get? e = none ∧ h.FunFrames B l ∧ FliesX B e dx h
def RetK (h₀ : Heap) (L : Addr) (m : Str → Option Value) (s : Shared) (Ret : Value → Led → Prop) (Q : Value → Shared → Prop) : Prop :=
  ∀ r led' h' tk', Fr h₀ L h' m → News h₀ L h' led' → Dm led' → Ret r led' → Q r { s with heap := h', toks := tk' }
def ThrK (h₀ : Heap) (L : Addr) (m : Str → Option Value) (s : Shared) (base : Heap) (l : List Env) (Err : Addr → Led → Prop) (E : Value → Shared → Prop) : Prop :=
  ∀ e dx led' h' tk' g, Fr h₀ L g m → g.UpToSlots h' → Rz base l e dx led' h' → Dm led' → Err dx led' → E (.ref e) { s with heap := h', toks := tk' }
/-- what a call of f upon a ledger hands back, whatever stands around -/
def Tells (w : World) (f : Addr) (args : List Value) (D : Nat) (led : Led) (Ret : Value → Led → Prop) (Err : Addr → Led → Prop) : Prop :=
  ∀ (dp un : Nat) (gd : Option (List Code)) (cn : Str) (cs : Scope) (L a : Addr) (ccd : Value) (cl : List (Str × Addr)) (outer : List Env) (A₀ : Around) (base h₀ : Heap) (p : Program) (loose : List Str) (mean : ExcName → Option Value)
    (mg mb : Str → Option Value) (m : Str → Option Value) (s : Shared) (Q E : Value → Shared → Prop),
    Below A₀ base outer h₀ → Fr h₀ L s.heap m → (mk.heap_1 w.params).In h₀ → News h₀ L s.heap led → Top p loose mean mg mb h₀ → cs.kind = .function → Dm led → dp + D < recursionLimit → un + 8 * D < cLine →
    RetK h₀ L m s Ret Q →
    ThrK h₀ L m s base (envX cn cs L a ccd cl :: outer) Err E →
    wpAny (model PySem.Challenge.rw_sa0166_01.row.prog w) (ktrTop dp un gd cn cs L a ccd cl outer) (call (.ref f) args) Q E s
theorem ncl : Value.type "list" ≠ Value.type "tuple" := by decide
theorem ncd : Value.type "dict" ≠ Value.type "tuple" := by decide
theorem nci {C : Addr} : Value.ref C ≠ Value.type "tuple" := fun h => Value.noConfusion h
/-- a mark: no facts about the order of the new addresses are wanted -/
def NoLt : Prop := True
theorem ptId {Ret : Value → Led → Prop} (K : Value → Led → Prop) (k : ∀ r led', Ret r led' → K r led') (r : Value) (led' : Led) (h : Ret r led') : K r led' := k r led' h
def NoErr : Addr → Led → Prop := fun _ _ => False
theorem roomA {dp D k D' : Nat} (h : dp + D < recursionLimit) (e : Nat.ble (k + D') D = true) : dp + k + D' < recursionLimit := by
  have := Nat.le_of_ble_eq_true e
  omega
theorem unitsA {un D k D' : Nat} (h : un + 8 * D < cLine) (e : Nat.ble (k + 8 * D') (8 * D) = true) : un + k + 8 * D' < cLine := by
  have := Nat.le_of_ble_eq_true e
  omega
theorem atN {α : Type} {P : Nat → α → Prop} (j : Nat) (e : α) (h : ([] : List α)[j]? = some e) : P j e := absurd h (by simp)
theorem atC {α : Type} {P : Nat → α → Prop} {a : α} {l : List α} (h0 : P 0 a) (ht : ∀ (j : Nat) e, l[j]? = some e → P (j + 1) e) (j : Nat) (e : α) (h : (a :: l)[j]? = some e) : P j e := by
  rcases j with _ | j
  · obtain rfl : a = e := Option.some.inj h
    exact h0
  · exact ht j e h
theorem atA {α : Type} {P : Nat → α → Prop} {l r : List α} {n : Nat} (e : l.length = n) (hl : ∀ (j : Nat) x, l[j]? = some x → P j x) (hr : ∀ (j : Nat) x, r[j]? = some x → P (n + j) x) (j : Nat) (x : α) (h : (l ++ r)[j]? = some x) : P j x := by
  rcases Nat.lt_or_ge j l.length with hj | hj
  · rw [List.getElem?_append_left hj] at h; exact hl j x h
  · rw [List.getElem?_append_right hj, e] at h
    have := hr _ x h
    rwa [Nat.add_sub_cancel' (e ▸ hj)] at this
def Hold (p : Prop) : Prop := p
theorem Hold.of {p : Prop} (h : Hold p) : p := h
theorem Hold.mk {p : Prop} (h : p) : Hold p := h
/-- the goal as a variable meanwhile -/
theorem Gen {P : Prop} (h : ∀ G : Prop, (P → G) → G) : P := h P id
theorem genK {M : Model} {A : Around} {E : Value → Shared → Prop} {s : Shared} {u : Sem Flow} {T : Flow → Shared → Prop} (h : ∀ K : Flow → Shared → Prop, (∀ f s, T f s → K f s) → wpAny M A u K E s) : wpAny M A u T E s := h T fun _ _ x => x
theorem genW {M : Model} {A : Around} {E : Value → Shared → Prop} {s : Shared} {t : Sem Bool} {u : Sem Flow} {T : Flow → Shared → Prop} {R : Shared → Prop} (h : ∀ K : Flow → Shared → Prop, (∀ f s, T f s → K f s) → wpAny M A t (fun b s₂ => if b = true then wpAny M A u K E s₂ else R s₂) E s) :
    wpAny M A t (fun b s₂ => if b = true then wpAny M A u T E s₂ else R s₂) E s := h T fun _ _ x => x
end Mine
namespace Mine
abbrev LX := Int.Internal.Linear.Expr
abbrev LC := Lean.RArray Int
/-- facts x ≤ y, each with its weight, ahead of G -/
def den (c : LC) (G : Prop) (fs : List (Nat × LX × LX)) : Prop := fs.foldr (fun f P => f.2.1.denote c ≤ f.2.2.denote c → P) G
noncomputable def accE (e : LX) (fs : List (Nat × LX × LX)) : LX := fs.foldl (fun e f => .add e (.mulL f.1 (.sub f.2.1 f.2.2))) e
theorem lin_acc {c : LC} {G : Prop} (fs : List (Nat × LX × LX)) : ∀ e : LX, (¬ G → e.denote c ≤ 0) → (accE e fs).norm.isUnsatLe = true → den c G fs := by
  induction fs with
  | nil =>
    intro e h k
    refine Classical.byContradiction fun hn => ?_
    refine Int.Internal.Linear.le_unsat c _ k ?_
    rw [Int.Internal.Linear.Poly.denote'_eq_denote, Int.Internal.Linear.Expr.denote_norm]
    exact h hn
  | cons f fs ih =>
    exact fun e h k hf => ih (.add e (.mulL f.1 (.sub f.2.1 f.2.2))) (fun hn => Int.add_nonpos (h hn) (Int.mul_nonpos_of_nonneg_of_nonpos (Int.natCast_nonneg _) (Int.sub_nonpos_of_le hf))) k
/-- the goal x ≤ y out of the facts -/
theorem lin (c : LC) (x y : LX) (fs : List (Nat × LX × LX)) (k : (accE (.sub (.add y (.num 1)) x) fs).norm.isUnsatLe = true) : den c (x.denote c ≤ y.denote c) fs :=
  lin_acc fs (.sub (.add y (.num 1)) x) (fun h => Int.sub_nonpos_of_le (Int.lt_of_not_ge h)) k
theorem linK (k : Nat) (c : LC) (x y : LX) (fs : List (Nat × LX × LX)) (e : (accE (.mulL k (.sub (.add y (.num 1)) x)) fs).norm.isUnsatLe = true) : den c (x.denote c ≤ y.denote c) fs :=
  lin_acc fs (.mulL k (.sub (.add y (.num 1)) x)) (fun h => Int.mul_nonpos_of_nonneg_of_nonpos (Int.natCast_nonneg _) (Int.sub_nonpos_of_le (Int.lt_of_not_ge h))) e
theorem linF (c : LC) (fs : List (Nat × LX × LX)) (k : (accE (.num 0) fs).norm.isUnsatLe = true) : den c False fs :=
  lin_acc fs (.num 0) (fun _ => Int.le_refl _) k
theorem neg_natAbs {a : Int} : -a ≤ (a.natAbs : Int) := by rw [← Int.natAbs_neg]; exact Int.le_natAbs
theorem nabs_le {a : Int} {k : Nat} (h : a ≤ (k : Int)) (h' : -a ≤ (k : Int)) : a.natAbs ≤ k := by omega
theorem nabs_lt {a : Int} {k : Nat} (h : a < (k : Int)) (h' : -a < (k : Int)) : a.natAbs < k := by omega
noncomputable abbrev V0 : LX := .var 0
noncomputable abbrev V1 : LX := .var 1
noncomputable abbrev V2 : LX := .var 2
noncomputable abbrev V3 : LX := .var 3
noncomputable abbrev V4 : LX := .var 4
noncomputable abbrev V5 : LX := .var 5
noncomputable abbrev V6 : LX := .var 6
noncomputable abbrev V7 : LX := .var 7
noncomputable abbrev C1 (a : Int) : LC := .leaf a
noncomputable abbrev C2 (a b : Int) : LC := .branch 1 (.leaf a) (.leaf b)
noncomputable abbrev C3 (a b c : Int) : LC := .branch 1 (.leaf a) (.branch 2 (.leaf b) (.leaf c))
noncomputable abbrev C4 (a b c d : Int) : LC := .branch 1 (.leaf a) (.branch 2 (.leaf b) (.branch 3 (.leaf c) (.leaf d)))
noncomputable abbrev C5 (a b c d e : Int) : LC := .branch 1 (.leaf a) (.branch 2 (.leaf b) (.branch 3 (.leaf c) (.branch 4 (.leaf d) (.leaf e))))
noncomputable abbrev C6 (a b c d e f : Int) : LC := .branch 1 (.leaf a) (.branch 2 (.leaf b) (.branch 3 (.leaf c) (.branch 4 (.leaf d) (.branch 5 (.leaf e) (.leaf f)))))
noncomputable abbrev C7 (a b c d e f g : Int) : LC := .branch 1 (.leaf a) (.branch 2 (.leaf b) (.branch 3 (.leaf c) (.branch 4 (.leaf d) (.branch 5 (.leaf e) (.branch 6 (.leaf f) (.leaf g))))))
noncomputable abbrev C8 (a b c d e f g h : Int) : LC := .branch 1 (.leaf a) (.branch 2 (.leaf b) (.branch 3 (.leaf c) (.branch 4 (.leaf d) (.branch 5 (.leaf e) (.branch 6 (.leaf f) (.branch 7 (.leaf g) (.leaf h)))))))
noncomputable abbrev S1 (x : LX) : LX := .add x (.num 1)
theorem uL {a b : Nat} (h : a ≤ b) : (a : Int) ≤ b := Int.ofNat_le.mpr h
theorem uT {a b : Nat} (h : a < b) : (a : Int) < b := Int.ofNat_lt.mpr h
theorem uE {a b : Nat} (h : a = b) : (a : Int) ≤ b := Int.ofNat_le.mpr (Nat.le_of_eq h)
theorem dL {a b : Nat} (h : (a : Int) ≤ b) : a ≤ b := Int.ofNat_le.mp h
theorem dT {a b : Nat} (h : (a : Int) < b) : a < b := Int.ofNat_lt.mp h
end Mine
namespace Mine
theorem om3 {b c : Nat} {a : Int} (h0 : a = (((b : Nat) : Int) + 1 + ((c : Nat) : Int))) : (a + 1) = (((b : Nat) : Int) + 1 + ((c + 1 : Nat) : Int)) := Int.le_antisymm (lin (C3 a b c) (S1 V0) (.add (S1 V1) (S1 V2)) [(1, V0, (.add (S1 V1) V2))] rfl (Int.le_of_eq h0)) (lin (C3 a b c) (.add (S1 V1) (S1 V2)) (S1 V0) [(1, (.add (S1 V1) V2), V0)] rfl (Int.le_of_eq h0.symm))
theorem om4 {a b c d : Nat} (h0 : a < 80000) (h1 : b < 900) (h2 : c = b) (h3 : d = (a + 1 + c)) : d < 1000000 := dT (lin (C4 a b c d) (S1 V3) (.num 1000000) [(1, (S1 V0), (.num 80000)), (1, (S1 V1), (.num 900)), (1, V2, V1), (1, V3, (.add (S1 V0) V2))] rfl (uT h0) (uT h1) (uE h2) (uE h3))
theorem om5 {a b c : Nat} (h0 : a = b) (h1 : c = b) : a ≤ c := dL (lin (C3 a b c) V0 V2 [(1, V0, V1), (1, V1, V2)] rfl (uE h0) (uE h1.symm))
theorem om6 {a : Nat} : (0 : Int) ≤ ((a : Nat) : Int) := lin (C1 a) (.num 0) V0 [(1, (.num 0), V0)] rfl (Int.natCast_nonneg a)
theorem om7 {a b c d e : Nat} (h0 : a = b) (h1 : c = b) (h2 : d < c) : (e + ((min d a) + (a - d) + 1)) = (e + 1 + a) := Nat.le_antisymm (dL (lin (C7 a b c d e ((min d a) : Nat) ((a - d) : Nat)) (.add V4 (S1 (.add V5 V6))) (.add (S1 V4) V0) [(1, V5, V3), (1, (.add V6 V3), V0)] rfl (uL (Nat.min_le_left _ _)) (uL (Nat.le_of_eq (Nat.sub_add_cancel (dL (lin (C7 a b c d e ((min d a) : Nat) ((a - d) : Nat)) V3 V0 [(1, V1, V0), (1, V2, V1), (1, (S1 V3), V2)] rfl (uE h0.symm) (uE h1) (uT h2)))))))) (dL (lin (C7 a b c d e ((min d a) : Nat) ((a - d) : Nat)) (.add (S1 V4) V0) (.add V4 (S1 (.add V5 V6))) [(1, V0, (.add V6 V3)), (1, V3, V5)] rfl (uL (Nat.sub_le_iff_le_add.mp (Nat.le_refl _))) (uL (Nat.le_min.mpr ⟨Nat.le_refl _, dL (lin (C7 a b c d e ((min d a) : Nat) ((a - d) : Nat)) V3 V0 [(1, V1, V0), (1, V2, V1), (1, (S1 V3), V2)] rfl (uE h0.symm) (uE h1) (uT h2))⟩))))
theorem om8 {a c : Nat} {b : Int} (h0 : b = (((a : Nat) : Int) + 1 + ((c : Nat) : Int))) : (0 : Int) ≤ b := lin (C3 a b c) (.num 0) V1 [(1, (.add (S1 V0) V2), V1), (1, (.num 0), V0), (1, (.num 0), V2)] rfl (Int.le_of_eq h0.symm) (Int.natCast_nonneg a) (Int.natCast_nonneg c)
theorem om9 {a b c : Nat} (h0 : a = b) (h1 : c = b) : (a - c) = 0 := Nat.le_antisymm (dL (lin (C4 a b c ((a - c) : Nat)) V3 (.num 0) [(1, V3, (.num 0))] rfl (uL (Nat.le_of_eq (Nat.sub_eq_zero_of_le (dL (lin (C4 a b c ((a - c) : Nat)) V0 V2 [(1, V0, V1), (1, V1, V2)] rfl (uE h0) (uE h1.symm)))))))) (dL (lin (C4 a b c ((a - c) : Nat)) (.num 0) V3 [(1, (.num 0), V3)] rfl (Int.natCast_nonneg (a - c))))
theorem om10 {a b c : Nat} (h0 : a < b) : (c + ((min a b) + 1)) = (c + 1 + a) := Nat.le_antisymm (dL (lin (C4 a b c ((min a b) : Nat)) (.add V2 (S1 V3)) (.add (S1 V2) V0) [(1, V3, V0)] rfl (uL (Nat.min_le_left _ _)))) (dL (lin (C4 a b c ((min a b) : Nat)) (.add (S1 V2) V0) (.add V2 (S1 V3)) [(1, V0, V3)] rfl (uL (Nat.le_min.mpr ⟨Nat.le_refl _, dL (lin (C4 a b c ((min a b) : Nat)) V0 V1 [(1, (S1 V0), V1)] rfl (uT h0))⟩))))
theorem om11 {a b c : Nat} (h0 : a < 900) (h1 : b = a) : (min c b) < 1000 := dT (lin (C4 a b c ((min c b) : Nat)) (S1 V3) (.num 1000) [(1, (S1 V0), (.num 900)), (1, V1, V0), (1, V3, V1)] rfl (uT h0) (uE h1) (uL (Nat.min_le_right _ _)))
theorem om13 {a b c : Nat} (h0 : b = a) (h1 : c < b) : c < a := dT (lin (C3 a b c) (S1 V2) V0 [(1, V1, V0), (1, (S1 V2), V1)] rfl (uE h0) (uT h1))
theorem om14 {a b : Nat} (h0 : a < b) : (b - a) = ((b - (a + 1)) + 1) := Nat.le_antisymm (dL (lin (C4 a b ((b - a) : Nat) ((b - (a + 1)) : Nat)) V2 (S1 V3) [(1, V1, (.add V3 (S1 V0))), (1, (.add V2 V0), V1)] rfl (uL (Nat.sub_le_iff_le_add.mp (Nat.le_refl _))) (uL (Nat.le_of_eq (Nat.sub_add_cancel (dL (lin (C4 a b ((b - a) : Nat) ((b - (a + 1)) : Nat)) V0 V1 [(1, (S1 V0), V1)] rfl (uT h0)))))))) (dL (lin (C4 a b ((b - a) : Nat) ((b - (a + 1)) : Nat)) (S1 V3) V2 [(1, V1, (.add V2 V0)), (1, (.add V3 (S1 V0)), V1)] rfl (uL (Nat.sub_le_iff_le_add.mp (Nat.le_refl _))) (uL (Nat.le_of_eq (Nat.sub_add_cancel (dL (lin (C4 a b ((b - a) : Nat) ((b - (a + 1)) : Nat)) (S1 V0) V1 [(1, (S1 V0), V1)] rfl (uT h0))))))))
theorem om15 {a b c e f g : Nat} {d : Int} (h0 : a = b) (h1 : c = b) (h2 : d = (((e : Nat) : Int) + 1 + ((f : Nat) : Int))) (h3 : f < c) (h4 : g = (e + 1 + a)) : d < ((g : Nat) : Int) := lin (C7 a b c d e f g) (S1 V3) V6 [(1, V1, V0), (1, V2, V1), (1, V3, (.add (S1 V4) V5)), (1, (S1 V5), V2), (1, (.add (S1 V4) V0), V6)] rfl (uE h0.symm) (uE h1) (Int.le_of_eq h2) (uT h3) (uE h4.symm)
theorem om16 {a c : Nat} {b : Int} (h0 : b = (((a : Nat) : Int) + 1 + ((c : Nat) : Int))) (h1 : (0 : Int) ≤ b) : (Int.toNat b) = (a + 1 + c) := Nat.le_antisymm (dL (lin (C4 a b c ((Int.toNat b) : Nat)) V3 (.add (S1 V0) V2) [(1, V1, (.add (S1 V0) V2)), (1, V3, V1)] rfl (Int.le_of_eq h0) (Int.le_of_eq (Int.toNat_of_nonneg (lin (C4 a b c ((Int.toNat b) : Nat)) (.num 0) V1 [(1, (.num 0), V1)] rfl h1))))) (dL (lin (C4 a b c ((Int.toNat b) : Nat)) (.add (S1 V0) V2) V3 [(1, (.add (S1 V0) V2), V1), (1, V1, V3)] rfl (Int.le_of_eq h0.symm) (Int.self_le_toNat b)))
theorem om18 {a : Nat} : (1 + ((a : Nat) : Int)) = ((a + 1 : Nat) : Int) := Int.le_antisymm (lin (C1 a) (.add (.num 1) V0) (S1 V0) [] rfl ) (lin (C1 a) (S1 V0) (.add (.num 1) V0) [] rfl )
theorem om19 {a b c d : Nat} (h0 : a = b) (h1 : c = b) (h2 : d < c) : d < a := dT (lin (C4 a b c d) (S1 V3) V0 [(1, V1, V0), (1, V2, V1), (1, (S1 V3), V2)] rfl (uE h0.symm) (uE h1) (uT h2))
theorem om22 {a b c : Nat} (h0 : c = (a + (b + 1))) : ((a : Nat) : Int) < ((c : Nat) : Int) := lin (C3 a b c) (S1 V0) V2 [(1, (.add V0 (S1 V1)), V2), (1, (.num 0), V1)] rfl (uE h0.symm) (Int.natCast_nonneg b)
theorem om23 {a b c : Nat} (h0 : a = b) (h1 : c < b) : ((c : Nat) : Int) < ((a : Nat) : Int) := lin (C3 a b c) (S1 V2) V0 [(1, V1, V0), (1, (S1 V2), V1)] rfl (uE h0.symm) (uT h1)
theorem om24 {a b c d : Nat} (h0 : a = b) (h1 : (b + 1 + 1 + c) ≤ 2 * d) (h2 : d < 400) : a < 1000 := dT (lin (C4 a b c d) (S1 V0) (.num 1000) [(1, V0, V1), (1, (.add (S1 (S1 V1)) V2), (.mulL 2 V3)), (2, (S1 V3), (.num 400)), (1, (.num 0), V2)] rfl (uE h0) (uL h1) (uT h2) (Int.natCast_nonneg c))
theorem om25 {a b c d : Nat} (h0 : (a + b + c) = d) (h1 : a = 1) : (b + (c + 1)) = d := Nat.le_antisymm (dL (lin (C4 a b c d) (.add V1 (S1 V2)) V3 [(1, (.add (.add V0 V1) V2), V3), (1, (.num 1), V0)] rfl (uE h0) (uE h1.symm))) (dL (lin (C4 a b c d) V3 (.add V1 (S1 V2)) [(1, V3, (.add (.add V0 V1) V2)), (1, V0, (.num 1))] rfl (uE h0.symm) (uE h1)))
theorem om26 {a b : Nat} (h0 : 1 ≤ a) : b < (a + b) := dT (lin (C2 a b) (S1 V1) (.add V0 V1) [(1, (.num 1), V0)] rfl (uL h0))
theorem om27 {a b c d : Nat} (h0 : a = b) (h1 : (b + c) ≤ 2 * d) (h2 : d < 400) : a < 1000000 := dT (lin (C4 a b c d) (S1 V0) (.num 1000000) [(1, V0, V1), (1, (.add V1 V2), (.mulL 2 V3)), (2, (S1 V3), (.num 400)), (1, (.num 0), V2)] rfl (uE h0) (uL h1) (uT h2) (Int.natCast_nonneg c))
theorem om28 {a b : Nat} (h0 : (a + 1) = b) : a ≤ b := dL (lin (C2 a b) V0 V1 [(1, (S1 V0), V1)] rfl (uE h0))
theorem om29 {a b c d e : Nat} (h0 : (a + b + c) = d) (h1 : (e + 1) = a) : (b + e + (c + 1)) = d := Nat.le_antisymm (dL (lin (C5 a b c d e) (.add (.add V1 V4) (S1 V2)) V3 [(1, (.add (.add V0 V1) V2), V3), (1, (S1 V4), V0)] rfl (uE h0) (uE h1))) (dL (lin (C5 a b c d e) V3 (.add (.add V1 V4) (S1 V2)) [(1, V3, (.add (.add V0 V1) V2)), (1, V0, (S1 V4))] rfl (uE h0.symm) (uE h1.symm)))
theorem om30 {b c d : Nat} {a : Int} (h0 : a = ((b + c : Nat) : Int)) (h1 : (b + c) < d) : a < ((d : Nat) : Int) := lin (C4 a b c d) (S1 V0) V3 [(1, V0, (.add V1 V2)), (1, (S1 (.add V1 V2)), V3)] rfl (Int.le_of_eq h0) (uT h1)
theorem om31 {a b c : Nat} (h0 : a < b) (h1 : b = c) : a < c := dT (lin (C3 a b c) (S1 V0) V2 [(1, (S1 V0), V1), (1, V1, V2)] rfl (uT h0) (uE h1))
theorem om32 {a : Nat} (h0 : a < 1000) : (a + (0 + 1)) < 1000000 := dT (lin (C1 a) (S1 (.add V0 (S1 (.num 0)))) (.num 1000000) [(1, (S1 V0), (.num 1000))] rfl (uT h0))
theorem om33 {a b : Nat} (h0 : a ≤ b) (h1 : b ≤ a) : a = b := Nat.le_antisymm (dL (lin (C2 a b) V0 V1 [(1, V0, V1)] rfl (uL h0))) (dL (lin (C2 a b) V1 V0 [(1, V1, V0)] rfl (uL h1)))
theorem om34 {a b c : Nat} (h0 : c = b) (h1 : b ≤ a) : ¬ (((a : Nat) : Int) < ((c : Nat) : Int)) := fun hg => linF (C3 a b c) [(1, V2, V1), (1, V1, V0), (1, (S1 V0), V2)] rfl (uE h0) (uL h1) hg
theorem om35 {a b c d : Nat} (h0 : (a + b) ≤ (1 + c)) (h1 : (d + 3 * c) < 80000) : a < 100000 := dT (linK 3 (C4 a b c d) (S1 V0) (.num 100000) [(3, (.add V0 V1), (.add (.num 1) V2)), (1, (S1 (.add V3 (.mulL 3 V2))), (.num 80000)), (3, (.num 0), V1), (1, (.num 0), V3)] rfl (uL h0) (uT h1) (Int.natCast_nonneg b) (Int.natCast_nonneg d))
theorem om36 {a b c d e f g : Nat} (h0 : a = (b + (c + 1))) (h1 : c < 3) (h2 : (b + 3 * d) ≤ (e + 3 * f)) (h3 : (e + 3 * f) < 80000) (h4 : 80003 ≤ g) : a < g := dT (lin (C7 a b c d e f g) (S1 V0) V6 [(1, V0, (.add V1 (S1 V2))), (1, (S1 V2), (.num 3)), (1, (.add V1 (.mulL 3 V3)), (.add V4 (.mulL 3 V5))), (1, (S1 (.add V4 (.mulL 3 V5))), (.num 80000)), (1, (.num 80003), V6), (3, (.num 0), V3)] rfl (uE h0) (uT h1) (uL h2) (uT h3) (uL h4) (Int.natCast_nonneg d))
theorem om37 {a b : Nat} (h0 : 0 < (a - b)) : 1 ≤ (a - b) := dL (lin (C3 a b ((a - b) : Nat)) (.num 1) V2 [(1, (S1 (.num 0)), V2)] rfl (uT h0))
theorem om38 {a b c d : Nat} (h0 : a = b) (h1 : (b + 1 + c) ≤ 2 * d) (h2 : d < 400) : a < 1000 := dT (lin (C4 a b c d) (S1 V0) (.num 1000) [(1, V0, V1), (1, (.add (S1 V1) V2), (.mulL 2 V3)), (2, (S1 V3), (.num 400)), (1, (.num 0), V2)] rfl (uE h0) (uL h1) (uT h2) (Int.natCast_nonneg c))
theorem om39 {a b c d e f g : Nat} (h0 : a = b) (h1 : b ≤ c) (h2 : d = (e + c)) (h3 : (f + d) ≤ 2 * g) (h4 : g < 400) : a < 1000000 := dT (lin (C7 a b c d e f g) (S1 V0) (.num 1000000) [(1, V0, V1), (1, V1, V2), (1, (.add V4 V2), V3), (1, (.add V5 V3), (.mulL 2 V6)), (2, (S1 V6), (.num 400)), (1, (.num 0), V4), (1, (.num 0), V5)] rfl (uE h0) (uL h1) (uE h2.symm) (uL h3) (uT h4) (Int.natCast_nonneg e) (Int.natCast_nonneg f))
theorem om41 {a b : Nat} (h0 : (a + 3 * b) < 80000) : a < 90000 := dT (lin (C2 a b) (S1 V0) (.num 90000) [(1, (S1 (.add V0 (.mulL 3 V1))), (.num 80000)), (3, (.num 0), V1)] rfl (uT h0) (Int.natCast_nonneg b))
theorem om42 {a b : Nat} (h0 : a < 100000) (h1 : ((b : Nat) : Int) < ((a : Nat) : Int)) : ((b : Nat) : Int) < 2 ^ 63 := lin (C2 a b) (S1 V1) (.num 9223372036854775808) [(1, (S1 V0), (.num 100000)), (1, (S1 V1), V0)] rfl (uT h0) h1
theorem om43 {a b c d e : Nat} (h0 : (a + (b + c)) ≤ d) (h1 : (e + 1) = b) : (a + (0 + 1) + (c + e)) ≤ d := dL (lin (C5 a b c d e) (.add (.add V0 (S1 (.num 0))) (.add V2 V4)) V3 [(1, (.add V0 (.add V1 V2)), V3), (1, (S1 V4), V1)] rfl (uL h0) (uE h1))
theorem om44 {a b c d : Nat} (h0 : (a + (b + c)) ≤ d) (h1 : b = 1) : (a + c) ≤ d := dL (lin (C4 a b c d) (.add V0 V2) V3 [(1, (.add V0 (.add V1 V2)), V3), (1, (.num 1), V1)] rfl (uL h0) (uE h1.symm))
theorem om45 {a b : Nat} (h0 : (a + 1) ≤ b) : a ≤ b := dL (lin (C2 a b) V0 V1 [(1, (S1 V0), V1)] rfl (uL h0))
theorem om46 {a b : Nat} (h0 : a ≤ b) : (a + (0 + 1)) ≤ (b + 1) := dL (lin (C2 a b) (.add V0 (S1 (.num 0))) (S1 V1) [(1, V0, V1)] rfl (uL h0))
theorem om47 {a b : Nat} (h0 : a ≤ b) : a ≤ (b + 1) := dL (lin (C2 a b) V0 (S1 V1) [(1, V0, V1)] rfl (uL h0))
theorem om48 {a b c : Nat} (h0 : a = b) (h1 : a ≤ c) (h2 : (c - a) = 0) : c = b := Nat.le_antisymm (dL (lin (C4 a b c ((c - a) : Nat)) V2 V1 [(1, V0, V1), (1, V3, (.num 0)), (1, V2, (.add V3 V0))] rfl (uE h0) (uE h2) (uL (Nat.sub_le_iff_le_add.mp (Nat.le_refl _))))) (dL (lin (C4 a b c ((c - a) : Nat)) V1 V2 [(1, V1, V0), (1, V0, V2)] rfl (uE h0.symm) (uL h1)))
theorem om50 {a : Nat} (h0 : a < 1000000) : (a + (0 + 1)) ≤ 16777216 := dL (lin (C1 a) (.add V0 (S1 (.num 0))) (.num 16777216) [(1, (S1 V0), (.num 1000000))] rfl (uT h0))
theorem om55 {a b c : Nat} (h0 : (a + 3 * b) ≤ c) : a ≤ c := dL (lin (C3 a b c) V0 V2 [(1, (.add V0 (.mulL 3 V1)), V2), (3, (.num 0), V1)] rfl (uL h0) (Int.natCast_nonneg b))
theorem om58 {a b c d : Nat} (h0 : 1 ≤ a) (h1 : (b + 3 * (a + c)) ≤ d) : (b + 3 * c) ≤ d := dL (lin (C4 a b c d) (.add V1 (.mulL 3 V2)) V3 [(3, (.num 1), V0), (1, (.add V1 (.mulL 3 (.add V0 V2))), V3)] rfl (uL h0) (uL h1))
theorem om71 {a : Nat} : a ≤ (a + 1) := dL (lin (C1 a) V0 (S1 V0) [] rfl )
theorem om73 {a b c d : Nat} (h0 : (a + 3 * (b + c)) ≤ d) (h1 : b = 1) : (a + 3 * c) ≤ d := dL (lin (C4 a b c d) (.add V0 (.mulL 3 V2)) V3 [(1, (.add V0 (.mulL 3 (.add V1 V2))), V3), (3, (.num 1), V1)] rfl (uL h0) (uE h1.symm))
theorem om86 {a : Int} (h0 : (0 : Int) ≤ a) : a = (((Int.natAbs a) : Nat) : Int) := Int.le_antisymm (lin (C2 a ((Int.natAbs a) : Nat)) V0 V1 [(1, V0, V1)] rfl Int.le_natAbs) (lin (C2 a ((Int.natAbs a) : Nat)) V1 V0 [(1, V1, V0)] rfl (Int.le_of_eq (Int.natAbs_of_nonneg (lin (C2 a ((Int.natAbs a) : Nat)) (.num 0) V0 [(1, (.num 0), V0)] rfl h0))))
theorem om87 {a : Int} (h0 : a < 0) : (Int.natAbs (-a)) = (Int.natAbs a) := Nat.le_antisymm (dL (lin (C3 a ((Int.natAbs (-a)) : Nat) ((Int.natAbs a) : Nat)) V1 V2 [(1, (.neg V0), V2), (1, V1, (.neg V0))] rfl neg_natAbs (Int.le_of_eq (Int.natAbs_of_nonneg (lin (C3 a ((Int.natAbs (-a)) : Nat) ((Int.natAbs a) : Nat)) (.num 0) (.neg V0) [(1, (S1 V0), (.num 0))] rfl h0))))) (dL (lin (C3 a ((Int.natAbs (-a)) : Nat) ((Int.natAbs a) : Nat)) V2 V1 [(1, (.neg V0), V1), (1, V2, (.neg V0))] rfl Int.le_natAbs (Int.le_of_eq (Int.ofNat_natAbs_of_nonpos (lin (C3 a ((Int.natAbs (-a)) : Nat) ((Int.natAbs a) : Nat)) V0 (.num 0) [(1, (S1 V0), (.num 0))] rfl h0)))))
theorem om88 {a : Int} : (Int.natAbs a) = (Int.natAbs a) := Nat.le_antisymm (dL (lin (C2 a ((Int.natAbs a) : Nat)) V1 V1 [] rfl )) (dL (lin (C2 a ((Int.natAbs a) : Nat)) V1 V1 [] rfl ))
theorem om89 {a : Int} (h0 : (0 : Int) ≤ a) (h1 : a ≠ 0) : 0 < (Int.natAbs a) := dT (linK 20 (C2 a ((Int.natAbs a) : Nat)) (S1 (.num 0)) V1 [(19, (.num 0), V1), (1, V0, V1), (1, (S1 (.num 0)), V0)] rfl (Int.natCast_nonneg (Int.natAbs a)) Int.le_natAbs (Int.lt_iff_le_and_ne.mpr ⟨lin (C2 a ((Int.natAbs a) : Nat)) (.num 0) V0 [(1, (.num 0), V0)] rfl h0, h1.symm⟩))
theorem om90 {a : Int} (h0 : ¬ (a < 0)) : (0 : Int) ≤ a := lin (C1 a) (.num 0) V0 [(1, (.num 0), V0)] rfl (Int.not_lt.mp h0)
theorem om91 {a : Int} (h0 : a < 0) : (0 : Int) ≤ (-a) := lin (C1 a) (.num 0) (.neg V0) [(1, (S1 V0), (.num 0))] rfl h0
theorem om92 {a b c d e f g h i j : Nat} (h0 : a < 400) (h1 : c = d) (h2 : d ≤ e) (h3 : (b + f) ≤ 2 * a) (h4 : f = (g + e)) (h5 : i < h) (h6 : j ≤ (c + 1 + i)) (h7 : h < 3) : j < 950000 := dT (lin (.branch 1 (.leaf a) (.branch 2 (.leaf b) (.branch 3 (.leaf c) (.branch 4 (.leaf d) (.branch 5 (.leaf e) (.branch 6 (.leaf f) (.branch 7 (.leaf g) (.branch 8 (.leaf h) (.branch 9 (.leaf i) (.leaf j)))))))))) (S1 (.var 9)) (.num 950000) [(2, (S1 V0), (.num 400)), (1, V2, V3), (1, V3, V4), (1, (.add V1 V5), (.mulL 2 V0)), (1, (.add V6 V4), V5), (1, (S1 (.var 8)), V7), (1, (.var 9), (.add (S1 V2) (.var 8))), (1, (S1 V7), (.num 3)), (1, (.num 0), V1), (1, (.num 0), V6)] rfl (uT h0) (uE h1) (uL h2) (uL h3) (uE h4.symm) (uT h5) (uL h6) (uT h7) (Int.natCast_nonneg b) (Int.natCast_nonneg g))
theorem om93 {a b : Nat} (h0 : b < a) : ((a - 1) - b) < a := dT (linK 20 (C4 a b ((a - 1) : Nat) (((a - 1) - b) : Nat)) (S1 V3) V0 [(19, V2, V0), (20, V3, V2), (1, (S1 V2), V0)] rfl (uL (Nat.sub_le _ _)) (uL (Nat.sub_le _ _)) (uL (Nat.le_of_eq (Nat.sub_add_cancel (dL (linK 20 (C4 a b ((a - 1) : Nat) (((a - 1) - b) : Nat)) (.num 1) V0 [(1, (S1 V1), V0), (19, (.num 0), V0), (1, (.num 0), V1)] rfl (uT h0) (Int.natCast_nonneg a) (Int.natCast_nonneg b)))))))
theorem om95 {a b : Nat} (h0 : b = a) : b ≤ a := dL (lin (C2 a b) V1 V0 [(1, V1, V0)] rfl (uE h0))
theorem om96 {a : Int} (h0 : a ≤ 70) : a < 100 := lin (C1 a) (S1 V0) (.num 100) [(1, V0, (.num 70))] rfl h0
theorem om97 {a b c : Nat} (h0 : b ≤ (a + 1 + c)) : (b + (0 + 1)) ≤ (a + 1 + (c + 1)) := dL (lin (C3 a b c) (.add V1 (S1 (.num 0))) (.add (S1 V0) (S1 V2)) [(1, V1, (.add (S1 V0) V2))] rfl (uL h0))
theorem om99 {a b : Nat} (h0 : b < a) : (0 : Int) ≤ (((a : Nat) : Int) + ((b : Nat) : Int) * (-1)) := lin (C2 a b) (.num 0) (.add V0 (.mulR V1 (-1))) [(1, (S1 V1), V0)] rfl (uT h0)
theorem om100 {a b c : Nat} (h0 : a < 80000) (h1 : b < c) (h2 : c = a) : ((b : Nat) : Int) < 2 ^ 63 := lin (C3 a b c) (S1 V1) (.num 9223372036854775808) [(1, (S1 V0), (.num 80000)), (1, (S1 V1), V2), (1, V2, V0)] rfl (uT h0) (uT h1) (uE h2)
theorem om101 {a : Nat} : (1 : Int) ≤ (((a : Nat) : Int) + 1) := lin (C1 a) (.num 1) (S1 V0) [(1, (.num 0), V0)] rfl (Int.natCast_nonneg a)
theorem om102 {b : Nat} {a : Int} (h0 : a < ((b : Nat) : Int)) (h1 : b < 1000) : a < 2 ^ 63 := lin (C2 a b) (S1 V0) (.num 9223372036854775808) [(1, (S1 V0), V1), (1, (S1 V1), (.num 1000))] rfl h0 (uT h1)
theorem om103 {a : Nat} : (Int.toNat ((-1) + ((a + (0 + 1) : Nat) : Int))) = a := Nat.le_antisymm (dL (lin (C2 a ((Int.toNat ((-1) + ((a + (0 + 1) : Nat) : Int))) : Nat)) V1 V0 [(1, V1, (.add (.num (-1)) (.add V0 (S1 (.num 0)))))] rfl (Int.le_of_eq (Int.toNat_of_nonneg (lin (C2 a ((Int.toNat ((-1) + ((a + (0 + 1) : Nat) : Int))) : Nat)) (.num 0) (.add (.num (-1)) (.add V0 (S1 (.num 0)))) [(1, (.num 0), V0)] rfl (Int.natCast_nonneg a)))))) (dL (lin (C2 a ((Int.toNat ((-1) + ((a + (0 + 1) : Nat) : Int))) : Nat)) V0 V1 [(1, (.add (.num (-1)) (.add V0 (S1 (.num 0)))), V1)] rfl (Int.self_le_toNat ((-1) + ((a + (0 + 1) : Nat) : Int)))))
theorem om104 {a : Nat} (h0 : a < 1000000) : ((a : Nat) : Int) < 2 ^ 63 := lin (C1 a) (S1 V0) (.num 9223372036854775808) [(1, (S1 V0), (.num 1000000))] rfl (uT h0)
theorem om105 {b : Nat} {a : Int} (h0 : (0 : Int) ≤ a) (h1 : a < ((b : Nat) : Int)) : (Int.toNat a) < b := dT (lin (C3 a b ((Int.toNat a) : Nat)) (S1 V2) V1 [(1, (S1 V0), V1), (1, V2, V0)] rfl h1 (Int.le_of_eq (Int.toNat_of_nonneg (lin (C3 a b ((Int.toNat a) : Nat)) (.num 0) V0 [(1, (.num 0), V0)] rfl h0))))
theorem om106 {a : Nat} (h0 : a < 1000000) : a ≤ 16777216 := dL (lin (C1 a) V0 (.num 16777216) [(1, (S1 V0), (.num 1000000))] rfl (uT h0))
theorem om107 {a : Int} (h0 : (0 : Int) ≤ a) : ((-(2 ^ 63)) : Int) ≤ a := lin (C1 a) (.num (-9223372036854775808)) V0 [(1, (.num 0), V0)] rfl h0
theorem om108 {a : Nat} (h0 : a = 3) : a < 1000 := dT (lin (C1 a) (S1 V0) (.num 1000) [(1, V0, (.num 3))] rfl (uE h0))
theorem om109 {a : Nat} : (((a : Nat) : Int) - 0 - 1 + 1) = ((a : Nat) : Int) := Int.le_antisymm (lin (C1 a) (S1 (.sub (.sub V0 (.num 0)) (.num 1))) V0 [] rfl ) (lin (C1 a) V0 (S1 (.sub (.sub V0 (.num 0)) (.num 1))) [] rfl )
theorem om110 {a : Nat} (h0 : ¬ ((0 : Int) < ((a : Nat) : Int))) : (0 : Int) = ((a : Nat) : Int) := Int.le_antisymm (lin (C1 a) (.num 0) V0 [(1, (.num 0), V0)] rfl (Int.natCast_nonneg a)) (lin (C1 a) V0 (.num 0) [(1, V0, (.num 0))] rfl (Int.not_lt.mp h0))
theorem om112 {a : Nat} (h0 : a < 29) : a ≤ 90000 := dL (lin (C1 a) V0 (.num 90000) [(1, (S1 V0), (.num 29))] rfl (uT h0))
theorem om113 {a : Nat} (h0 : a = 31) : 0 < (a + 1) := dT (lin (C1 a) (S1 (.num 0)) (S1 V0) [(1, (.num 31), V0)] rfl (uE h0.symm))
theorem om115 {a : Nat} (h0 : a < 32) : (29 + a) ≤ 80000 := dL (lin (C1 a) (.add (.num 29) V0) (.num 80000) [(1, (S1 V0), (.num 32))] rfl (uT h0))
theorem om116 {a b : Nat} {c : Int} (h0 : a = b) (h1 : c < (((0 : Nat) : Int) + ((b : Nat) : Int))) : c < ((a : Nat) : Int) := lin (C3 a b c) (S1 V2) V0 [(1, V1, V0), (1, (S1 V2), (.add (.num 0) V1))] rfl (uE h0.symm) h1
theorem om117 {a b : Nat} {c : Int} (h0 : a = b) (h1 : (0 : Int) ≤ c) (h2 : c < ((b : Nat) : Int)) : (Int.toNat c) < a := dT (lin (C4 a b c ((Int.toNat c) : Nat)) (S1 V3) V0 [(1, V1, V0), (1, (S1 V2), V1), (1, V3, V2)] rfl (uE h0.symm) h2 (Int.le_of_eq (Int.toNat_of_nonneg (lin (C4 a b c ((Int.toNat c) : Nat)) (.num 0) V2 [(1, (.num 0), V2)] rfl h1))))
theorem om118 {a : Nat} (h0 : a < 3) : a ≤ 16777216 := dL (lin (C1 a) V0 (.num 16777216) [(1, (S1 V0), (.num 3))] rfl (uT h0))
theorem om119 {a : Nat} : (0 + a) = a := Nat.le_antisymm (dL (lin (C1 a) (.add (.num 0) V0) V0 [] rfl )) (dL (lin (C1 a) V0 (.add (.num 0) V0) [] rfl ))
theorem om120 {b : Nat} {a : Int} (h0 : a < (((0 : Nat) : Int) + ((b : Nat) : Int))) : a < ((b : Nat) : Int) := lin (C2 a b) (S1 V0) V1 [(1, (S1 V0), (.add (.num 0) V1))] rfl h0
theorem om121 {a b c : Nat} (h0 : (a + (b + 1)) = c) : (a + 1 + b) = c := Nat.le_antisymm (dL (lin (C3 a b c) (.add (S1 V0) V1) V2 [(1, (.add V0 (S1 V1)), V2)] rfl (uE h0))) (dL (lin (C3 a b c) V2 (.add (S1 V0) V1) [(1, V2, (.add V0 (S1 V1)))] rfl (uE h0.symm)))
theorem om122 {a b c d : Nat} (h0 : a = b) (h1 : (c + (d + 1)) = b) : c < a := dT (lin (C4 a b c d) (S1 V2) V0 [(1, V1, V0), (1, (.add V2 (S1 V3)), V1), (1, (.num 0), V3)] rfl (uE h0.symm) (uE h1) (Int.natCast_nonneg d))
theorem om123 {a : Nat} {b : Int} (h0 : (0 : Int) ≤ b) (h1 : b < ((a : Nat) : Int)) : (Int.toNat b) < a := dT (lin (C3 a b ((Int.toNat b) : Nat)) (S1 V2) V0 [(1, (S1 V1), V0), (1, V2, V1)] rfl h1 (Int.le_of_eq (Int.toNat_of_nonneg (lin (C3 a b ((Int.toNat b) : Nat)) (.num 0) V1 [(1, (.num 0), V1)] rfl h0))))
theorem om124 {a b c : Nat} (h0 : a = b) (h1 : (c + 0) = b) : a ≤ c := dL (lin (C3 a b c) V0 V2 [(1, V0, V1), (1, V1, (.add V2 (.num 0)))] rfl (uE h0) (uE h1.symm))
theorem om125 {a b c d e : Nat} (h0 : (a + b) ≤ c) (h1 : b = (1 + d)) (h2 : e ≤ (a + 1)) : (e + d) ≤ c := dL (lin (C5 a b c d e) (.add V4 V3) V2 [(1, (.add V0 V1), V2), (1, (.add (.num 1) V3), V1), (1, V4, (S1 V0))] rfl (uL h0) (uE h1.symm) (uL h2))
theorem om126 {a b c d : Nat} (h0 : (a + b) ≤ c) (h1 : b = (2 + d)) : (a + d) ≤ c := dL (lin (C4 a b c d) (.add V0 V3) V2 [(1, (.add V0 V1), V2), (1, (.add (.num 2) V3), V1)] rfl (uL h0) (uE h1.symm))
theorem om127 {a b c : Nat} (h0 : a ≤ b) (h1 : 1 ≤ c) : (a + 1) ≤ (c + b) := dL (lin (C3 a b c) (S1 V0) (.add V2 V1) [(1, V0, V1), (1, (.num 1), V2)] rfl (uL h0) (uL h1))
theorem om128 {a b c d : Nat} (h0 : (a + 1 + 1 + b) ≤ c) (h1 : b = (1 + d)) : (a + 1 + d) ≤ c := dL (lin (C4 a b c d) (.add (S1 V0) V3) V2 [(1, (.add (S1 (S1 V0)) V1), V2), (1, (.add (.num 1) V3), V1)] rfl (uL h0) (uE h1.symm))
theorem om129 {a b : Nat} (h0 : a < b) : (((b - 1) - a) + 1) = (b - a) := Nat.le_antisymm (dL (linK 20 (C5 a b ((b - 1) : Nat) (((b - 1) - a) : Nat) ((b - a) : Nat)) (S1 V3) V4 [(19, V2, V1), (20, V1, (.add V4 V0)), (1, (S1 V2), V1), (20, (.add V3 V0), V2)] rfl (uL (Nat.sub_le _ _)) (uL (Nat.sub_le_iff_le_add.mp (Nat.le_refl _))) (uL (Nat.le_of_eq (Nat.sub_add_cancel (dL (linK 20 (C5 a b ((b - 1) : Nat) (((b - 1) - a) : Nat) ((b - a) : Nat)) (.num 1) V1 [(1, (S1 V0), V1), (1, (.num 0), V0), (19, (.num 0), V1)] rfl (uT h0) (Int.natCast_nonneg a) (Int.natCast_nonneg b)))))) (uL (Nat.le_of_eq (Nat.sub_add_cancel (dL (lin (C5 a b ((b - 1) : Nat) (((b - 1) - a) : Nat) ((b - a) : Nat)) V0 V2 [(1, (S1 V0), V1), (1, V1, (S1 V2))] rfl (uT h0) (uL (Nat.sub_le_iff_le_add.mp (Nat.le_refl _)))))))))) (dL (lin (C5 a b ((b - 1) : Nat) (((b - 1) - a) : Nat) ((b - a) : Nat)) V4 (S1 V3) [(1, V1, (S1 V2)), (1, V2, (.add V3 V0)), (1, (.add V4 V0), V1)] rfl (uL (Nat.sub_le_iff_le_add.mp (Nat.le_refl _))) (uL (Nat.sub_le_iff_le_add.mp (Nat.le_refl _))) (uL (Nat.le_of_eq (Nat.sub_add_cancel (dL (lin (C5 a b ((b - 1) : Nat) (((b - 1) - a) : Nat) ((b - a) : Nat)) V0 V1 [(1, (S1 V0), V1)] rfl (uT h0))))))))
theorem om130 {a b : Nat} (h0 : ((a : Nat) : Int) = ((b : Nat) : Int)) : a = b := Nat.le_antisymm (dL (lin (C2 a b) V0 V1 [(1, V0, V1)] rfl (Int.le_of_eq h0))) (dL (lin (C2 a b) V1 V0 [(1, V1, V0)] rfl (Int.le_of_eq h0.symm)))
theorem om131 {a b c d e : Nat} (h0 : (a + 2) = 2 * b) (h1 : c = (2 * b + d)) (h2 : e = (a + (1 + d))) : e < c := dT (lin (C5 a b c d e) (S1 V4) V2 [(1, (.add V0 (.num 2)), (.mulL 2 V1)), (1, (.add (.mulL 2 V1) V3), V2), (1, V4, (.add V0 (.add (.num 1) V3)))] rfl (uE h0) (uE h1.symm) (uE h2))
theorem om132 {a b c d : Nat} (h0 : (a + 1 + b) ≤ c) (h1 : b = (1 + d)) : (a + 1 + d) ≤ c := dL (lin (C4 a b c d) (.add (S1 V0) V3) V2 [(1, (.add (S1 V0) V1), V2), (1, (.add (.num 1) V3), V1)] rfl (uL h0) (uE h1.symm))
theorem om133 {a b c d : Nat} (h0 : (a + b) ≤ c) (h1 : b = (2 + d)) : (a + 1 + d) ≤ c := dL (lin (C4 a b c d) (.add (S1 V0) V3) V2 [(1, (.add V0 V1), V2), (1, (.add (.num 2) V3), V1)] rfl (uL h0) (uE h1.symm))
theorem om134 {a b c d e f g h : Nat} (h0 : (a + 2) = 2 * b) (h1 : (c + d) ≤ e) (h2 : d = (2 * b + f)) (h3 : g = (a + (1 + f))) (h4 : h ≤ (c + 1)) : (h + g) ≤ e := dL (lin (C8 a b c d e f g h) (.add V7 V6) V4 [(1, (.add V0 (.num 2)), (.mulL 2 V1)), (1, (.add V2 V3), V4), (1, (.add (.mulL 2 V1) V5), V3), (1, V6, (.add V0 (.add (.num 1) V5))), (1, V7, (S1 V2))] rfl (uE h0) (uL h1) (uE h2.symm) (uE h3) (uL h4))
theorem om135 {a b c d e f g : Nat} (h0 : (a + 2) = 2 * b) (h1 : (c + d) ≤ e) (h2 : d = (2 * b + f)) (h3 : g = (a + (1 + f))) : (c + g) ≤ e := dL (lin (C7 a b c d e f g) (.add V2 V6) V4 [(1, (.add V0 (.num 2)), (.mulL 2 V1)), (1, (.add V2 V3), V4), (1, (.add (.mulL 2 V1) V5), V3), (1, V6, (.add V0 (.add (.num 1) V5)))] rfl (uE h0) (uL h1) (uE h2.symm) (uE h3))
theorem om136 {a : Nat} (h0 : 1 ≤ a) : 1 ≤ 2 * a := dL (lin (C1 a) (.num 1) (.mulL 2 V0) [(2, (.num 1), V0)] rfl (uL h0))
theorem om137 {a b : Nat} (h0 : a < b) : (b - (a + 1)) = ((b - 1) - a) := Nat.le_antisymm (dL (lin (C5 a b ((b - (a + 1)) : Nat) ((b - 1) : Nat) (((b - 1) - a) : Nat)) V2 V4 [(1, V1, (S1 V3)), (1, V3, (.add V4 V0)), (1, (.add V2 (S1 V0)), V1)] rfl (uL (Nat.sub_le_iff_le_add.mp (Nat.le_refl _))) (uL (Nat.sub_le_iff_le_add.mp (Nat.le_refl _))) (uL (Nat.le_of_eq (Nat.sub_add_cancel (dL (lin (C5 a b ((b - (a + 1)) : Nat) ((b - 1) : Nat) (((b - 1) - a) : Nat)) (S1 V0) V1 [(1, (S1 V0), V1)] rfl (uT h0)))))))) (dL (linK 20 (C5 a b ((b - (a + 1)) : Nat) ((b - 1) : Nat) (((b - 1) - a) : Nat)) V4 V2 [(20, V1, (.add V2 (S1 V0))), (19, V3, V1), (1, (S1 V3), V1), (20, (.add V4 V0), V3)] rfl (uL (Nat.sub_le_iff_le_add.mp (Nat.le_refl _))) (uL (Nat.sub_le _ _)) (uL (Nat.le_of_eq (Nat.sub_add_cancel (dL (linK 20 (C5 a b ((b - (a + 1)) : Nat) ((b - 1) : Nat) (((b - 1) - a) : Nat)) (.num 1) V1 [(1, (S1 V0), V1), (1, (.num 0), V0), (19, (.num 0), V1)] rfl (uT h0) (Int.natCast_nonneg a) (Int.natCast_nonneg b)))))) (uL (Nat.le_of_eq (Nat.sub_add_cancel (dL (lin (C5 a b ((b - (a + 1)) : Nat) ((b - 1) : Nat) (((b - 1) - a) : Nat)) V0 V3 [(1, (S1 V0), V1), (1, V1, (S1 V3))] rfl (uT h0) (uL (Nat.sub_le_iff_le_add.mp (Nat.le_refl _))))))))))
theorem om138 {b : Nat} {a : Int} (h0 : (Int.toNat a) < b) : a < ((b : Nat) : Int) := lin (C3 a b ((Int.toNat a) : Nat)) (S1 V0) V1 [(1, (S1 V2), V1), (1, V0, V2)] rfl (uT h0) (Int.self_le_toNat a)
theorem om139 {a : Nat} {b : Int} (h0 : a < 1000) (h1 : b < ((a : Nat) : Int)) : b < 2 ^ 63 := lin (C2 a b) (S1 V1) (.num 9223372036854775808) [(1, (S1 V0), (.num 1000)), (1, (S1 V1), V0)] rfl (uT h0) h1
theorem om142 {a : Int} (h0 : a < 41) : (a - 20) ≤ 2 ^ 66 := lin (C1 a) (.sub V0 (.num 20)) (.num 73786976294838206464) [(1, (S1 V0), (.num 41))] rfl h0
theorem om146 {a : Nat} (h0 : a < 10000) : a ≤ 90000 := dL (lin (C1 a) V0 (.num 90000) [(1, (S1 V0), (.num 10000))] rfl (uT h0))
theorem om147 {a : Nat} (h0 : a ≤ 2 ^ 65) (h1 : 0 < a) : ((1 : Int) ≤ ((a : Nat) : Int)) ∧ (((a : Nat) : Int) ≤ 36893488147419103232) := ⟨lin (C1 a) (.num 1) V0 [(1, (S1 (.num 0)), V0)] rfl (uT h1), lin (C1 a) V0 (.num 36893488147419103232) [(1, V0, (.num 36893488147419103232))] rfl (uL h0)⟩
theorem om149 {a : Int} (h0 : (0 : Int) ≤ a) : ((-(2 ^ 66)) : Int) ≤ (a - 20) := lin (C1 a) (.num (-73786976294838206464)) (.sub V0 (.num 20)) [(1, (.num 0), V0)] rfl h0
theorem om152 {a b : Nat} : (((a : Nat) : Int) + (0 + ((b : Nat) : Int) * 1)) = (((a : Nat) : Int) + ((b : Nat) : Int)) := Int.le_antisymm (lin (C2 a b) (.add V0 (.add (.num 0) (.mulR V1 1))) (.add V0 V1) [] rfl ) (lin (C2 a b) (.add V0 V1) (.add V0 (.add (.num 0) (.mulR V1 1))) [] rfl )
theorem om154 {a b c d : Nat} (h0 : a < 90000) (h1 : b < 1000) (h2 : c < b) (h3 : d = (a + c)) : d < 1000000 := dT (lin (C4 a b c d) (S1 V3) (.num 1000000) [(1, (S1 V0), (.num 90000)), (1, (S1 V1), (.num 1000)), (1, (S1 V2), V1), (1, V3, (.add V0 V2))] rfl (uT h0) (uT h1) (uT h2) (uE h3))
theorem om155 {a : Nat} (h0 : a < 1000) : ((a : Nat) : Int) < 9223372036854775808 := lin (C1 a) (S1 V0) (.num 9223372036854775808) [(1, (S1 V0), (.num 1000))] rfl (uT h0)
theorem om156 {a b c d : Nat} (h0 : (a + ((max b c) + 2)) < d) : a < d := dT (lin (C5 a b c ((max b c) : Nat) d) (S1 V0) V4 [(1, (S1 (.add V0 (.add V3 (.num 2)))), V4), (1, (.num 0), V3)] rfl (uT h0) (Int.natCast_nonneg (max b c)))
theorem om157 {a b c d : Nat} (h0 : (a + ((max b c) + 2)) < d) : (a + 1 + 1 + c) < d := dT (lin (C5 a b c ((max b c) : Nat) d) (S1 (.add (S1 (S1 V0)) V2)) V4 [(1, (S1 (.add V0 (.add V3 (.num 2)))), V4), (1, V2, V3)] rfl (uT h0) (uL (Nat.le_max_right _ _)))
theorem om158 {a b c d : Nat} (h0 : (a + ((max b c) + 2)) < d) : (a + 1 + 1 + b) < d := dT (lin (C5 a b c ((max b c) : Nat) d) (S1 (.add (S1 (S1 V0)) V1)) V4 [(1, (S1 (.add V0 (.add V3 (.num 2)))), V4), (1, V1, V3)] rfl (uT h0) (uL (Nat.le_max_left _ _)))
theorem om159 {a b c d : Nat} (h0 : (a + ((max b c) + 2)) < d) : (a + 1) < d := dT (lin (C5 a b c ((max b c) : Nat) d) (S1 (S1 V0)) V4 [(1, (S1 (.add V0 (.add V3 (.num 2)))), V4), (1, (.num 0), V3)] rfl (uT h0) (Int.natCast_nonneg (max b c)))
theorem om160 {a b c : Nat} (h0 : (a + (b + 2)) < c) : a < c := dT (lin (C3 a b c) (S1 V0) V2 [(1, (S1 (.add V0 (.add V1 (.num 2)))), V2), (1, (.num 0), V1)] rfl (uT h0) (Int.natCast_nonneg b))
theorem om161 {a b c : Nat} (h0 : (a + (b + 2)) < c) : (a + 1 + 1 + b) < c := dT (lin (C3 a b c) (S1 (.add (S1 (S1 V0)) V1)) V2 [(1, (S1 (.add V0 (.add V1 (.num 2)))), V2)] rfl (uT h0))
theorem om162 {a b : Nat} (h0 : (a + 1) < b) : a < b := dT (lin (C2 a b) (S1 V0) V1 [(1, (S1 (S1 V0)), V1)] rfl (uT h0))
theorem om163 {a b c : Nat} (h0 : (a + (b + 2)) < c) : (a + 1) < c := dT (lin (C3 a b c) (S1 (S1 V0)) V2 [(1, (S1 (.add V0 (.add V1 (.num 2)))), V2), (1, (.num 0), V1)] rfl (uT h0) (Int.natCast_nonneg b))
theorem om164 {a b c : Nat} (h0 : a < 90000) (h1 : b < c) (h2 : c ≤ (a + 1)) : ((b : Nat) : Int) < 100000 := lin (C3 a b c) (S1 V1) (.num 100000) [(1, (S1 V0), (.num 90000)), (1, (S1 V1), V2), (1, V2, (S1 V0))] rfl (uT h0) (uT h1) (uL h2)
theorem om165 {a : Nat} (h0 : a ≠ 0) : (0 : Int) < ((a : Nat) : Int) := linK 20 (C1 a) (S1 (.num 0)) V0 [(19, (.num 0), V0), (1, (S1 (.num 0)), V0)] rfl (Int.natCast_nonneg a) (uT (Nat.lt_of_le_of_ne (dL (lin (C1 a) (.num 0) V0 [(1, (.num 0), V0)] rfl (Int.natCast_nonneg a))) h0.symm))
theorem om167 {a : Nat} {b : Int} (h0 : ¬ (b < ((a : Nat) : Int))) : ((a : Nat) : Int) ≤ b := lin (C2 a b) V0 V1 [(1, V0, V1)] rfl (Int.not_lt.mp h0)
theorem om168 {a b : Nat} (h0 : 1 ≤ a) : (((b : Nat) : Int) ≤ (((b : Nat) : Int) + ((a : Nat) : Int) - 1)) ∧ ((((b : Nat) : Int) + ((a : Nat) : Int) - 1) < (((b : Nat) : Int) + ((a + 0 : Nat) : Int))) := ⟨lin (C2 a b) V1 (.sub (.add V1 V0) (.num 1)) [(1, (.num 1), V0)] rfl (uL h0), lin (C2 a b) (S1 (.sub (.add V1 V0) (.num 1))) (.add V1 (.add V0 (.num 0))) [] rfl ⟩
theorem om169 {a b : Nat} {c : Int} (h0 : a ≤ b) (h1 : ((b : Nat) : Int) ≤ c) : ((a : Nat) : Int) ≤ c := lin (C3 a b c) V0 V2 [(1, V0, V1), (1, V1, V2)] rfl (uL h0) h1
theorem om170 {a : Int} (h0 : (Int.natAbs a) < 2 ^ 66) : (((-(2 ^ 66)) : Int) ≤ a) ∧ (a ≤ 2 ^ 66) := ⟨lin (C2 a ((Int.natAbs a) : Nat)) (.num (-73786976294838206464)) V0 [(1, (S1 V1), (.num 73786976294838206464)), (1, (.neg V0), V1)] rfl (uT h0) neg_natAbs, lin (C2 a ((Int.natAbs a) : Nat)) V0 (.num 73786976294838206464) [(1, (S1 V1), (.num 73786976294838206464)), (1, V0, V1)] rfl (uT h0) Int.le_natAbs⟩
theorem om172 {a b c d : Nat} {e : Int} (h0 : (a + b) ≤ (c + d)) (h1 : e < (((a : Nat) : Int) + ((b : Nat) : Int))) : e < (((c : Nat) : Int) + ((d : Nat) : Int)) := lin (C5 a b c d e) (S1 V4) (.add V2 V3) [(1, (.add V0 V1), (.add V2 V3)), (1, (S1 V4), (.add V0 V1))] rfl (uL h0) h1
theorem om173 {b : Nat} {a : Int} (h0 : a ≤ 66) (h1 : ((b : Nat) : Int) ≤ a) : b ≤ 66 := dL (lin (C2 a b) V1 (.num 66) [(1, V0, (.num 66)), (1, V1, V0)] rfl h0 h1)
theorem om174 {a b c : Nat} (h0 : 1 ≤ a) (h1 : 1 ≤ b) : ((((c : Nat) : Int) ≤ (((c : Nat) : Int) + ((a : Nat) : Int) - 1)) ∧ ((((c : Nat) : Int) + ((a : Nat) : Int) - 1) < (((c : Nat) : Int) + ((a + b + 0 : Nat) : Int)))) ∧ ((((c : Nat) : Int) ≤ (((c : Nat) : Int) + ((a : Nat) : Int) + ((b : Nat) : Int) - 1)) ∧ ((((c : Nat) : Int) + ((a : Nat) : Int) + ((b : Nat) : Int) - 1) < (((c : Nat) : Int) + ((a + b + 0 : Nat) : Int)))) := ⟨⟨lin (C3 a b c) V2 (.sub (.add V2 V0) (.num 1)) [(1, (.num 1), V0)] rfl (uL h0), lin (C3 a b c) (S1 (.sub (.add V2 V0) (.num 1))) (.add V2 (.add (.add V0 V1) (.num 0))) [(1, (.num 1), V1)] rfl (uL h1)⟩, ⟨lin (C3 a b c) V2 (.sub (.add (.add V2 V0) V1) (.num 1)) [(1, (.num 1), V0), (1, (.num 1), V1)] rfl (uL h0) (uL h1), lin (C3 a b c) (S1 (.sub (.add (.add V2 V0) V1) (.num 1))) (.add V2 (.add (.add V0 V1) (.num 0))) [] rfl ⟩⟩
theorem om175 {a : Int} : (Int.natAbs a) ≤ (Int.natAbs a) := nabs_le (lin (C2 a ((Int.natAbs a) : Nat)) V0 V1 [(1, V0, V1)] rfl Int.le_natAbs) (lin (C2 a ((Int.natAbs a) : Nat)) (.neg V0) V1 [(1, (.neg V0), V1)] rfl neg_natAbs)
theorem om176 {a : Nat} {b c : Int} (h0 : ¬ (c < (((a : Nat) : Int) + b))) (h1 : c < 100) : (((a : Nat) : Int) + b) ≤ 2 ^ 27 := lin (C3 a b c) (.add V0 V1) (.num 134217728) [(1, (.add V0 V1), V2), (1, (S1 V2), (.num 100))] rfl (Int.not_lt.mp h0) h1
theorem om177 {a : Int} (h0 : a < 0) : ¬ ((-a) < 0) := fun hg => linF (C1 a) [(1, (S1 V0), (.num 0)), (1, (S1 (.neg V0)), (.num 0))] rfl h0 hg
theorem om178 {a : Int} : (Int.natAbs (-a)) ≤ (Int.natAbs a) := nabs_le (lin (C3 a ((Int.natAbs (-a)) : Nat) ((Int.natAbs a) : Nat)) (.neg V0) V2 [(1, (.neg V0), V2)] rfl neg_natAbs) (lin (C3 a ((Int.natAbs (-a)) : Nat) ((Int.natAbs a) : Nat)) (.neg (.neg V0)) V2 [(1, V0, V2)] rfl Int.le_natAbs)
theorem om191 {a b : Int} (h0 : a < 100) (h1 : b ≤ 70 * a) : b ≤ 2 ^ 27 := lin (C2 a b) V1 (.num 134217728) [(70, (S1 V0), (.num 100)), (1, V1, (.mulL 70 V0))] rfl h0 h1
theorem om192 {a b : Int} (h0 : 1 * a ≤ b) : a ≤ b := lin (C2 a b) V0 V1 [(1, (.mulL 1 V0), V1)] rfl h0
theorem om193 {a b c : Int} (h0 : ¬ (b ≤ a)) (h1 : b < 100) (h2 : c ≤ a) : c < 100 := lin (C3 a b c) (S1 V2) (.num 100) [(1, (S1 V0), V1), (1, (S1 V1), (.num 100)), (1, V2, V0)] rfl (Int.not_le.mp h0) h1 h2
theorem om194 {a : Nat} (h0 : 2 ≤ a) : (1 : Int) ≤ (((a : Nat) : Int) - 1) := lin (C1 a) (.num 1) (.sub V0 (.num 1)) [(1, (.num 2), V0)] rfl (uL h0)
theorem om195 {a : Nat} (h0 : a ≤ 70) : ((a : Nat) : Int) < 2 ^ 64 := lin (C1 a) (S1 V0) (.num 18446744073709551616) [(1, V0, (.num 70))] rfl (uL h0)
theorem om196 {a : Nat} : ((-(2 ^ 64)) : Int) < ((a : Nat) : Int) := lin (C1 a) (S1 (.num (-18446744073709551616))) V0 [(1, (.num 0), V0)] rfl (Int.natCast_nonneg a)
theorem om197 {a : Int} (h0 : a ≠ 1) (h1 : a ≠ (-1)) (h2 : a ≠ 0) (h3 : (Int.natAbs a) < 2 ^ 1) : False := linF (C2 a ((Int.natAbs a) : Nat)) [(1, (S1 V0), (.num 0)), (1, (S1 (.num 0)), V0)] rfl (Int.lt_iff_le_and_ne.mpr ⟨lin (C2 a ((Int.natAbs a) : Nat)) V0 (.num 0) [(1, (S1 V0), (.num 1))] rfl (Int.lt_iff_le_and_ne.mpr ⟨lin (C2 a ((Int.natAbs a) : Nat)) V0 (.num 1) [(1, (S1 V1), (.num 2)), (1, V0, V1)] rfl (uT h3) Int.le_natAbs, h0⟩), h2⟩) (Int.lt_iff_le_and_ne.mpr ⟨lin (C2 a ((Int.natAbs a) : Nat)) (.num 0) V0 [(1, (S1 (.num (-1))), V0)] rfl (Int.lt_iff_le_and_ne.mpr ⟨lin (C2 a ((Int.natAbs a) : Nat)) (.num (-1)) V0 [(1, (S1 V1), (.num 2)), (1, (.neg V0), V1)] rfl (uT h3) neg_natAbs, h1.symm⟩), h2.symm⟩)
theorem om198 {a : Nat} (h0 : a ≤ 70) : ((a : Nat) : Int) ≤ 70 := lin (C1 a) V0 (.num 70) [(1, V0, (.num 70))] rfl (uL h0)
theorem om199 {a : Int} : (Int.natAbs ((-a) - 1)) ≤ ((Int.natAbs a) + 2) := nabs_le (lin (C3 a ((Int.natAbs ((-a) - 1)) : Nat) ((Int.natAbs a) : Nat)) (.sub (.neg V0) (.num 1)) (.add V2 (.num 2)) [(1, (.neg V0), V2)] rfl neg_natAbs) (lin (C3 a ((Int.natAbs ((-a) - 1)) : Nat) ((Int.natAbs a) : Nat)) (.neg (.sub (.neg V0) (.num 1))) (.add V2 (.num 2)) [(1, V0, V2)] rfl Int.le_natAbs)
theorem om200 {d : Nat} {a b c : Int} (h0 : a < 100) (h1 : ¬ (a ≤ b)) (h2 : c ≤ 2 * b) (h3 : ((d : Nat) : Int) = c) : (d + 1) ≤ 200 := dL (lin (C4 a b c d) (S1 V3) (.num 200) [(2, (S1 V0), (.num 100)), (2, (S1 V1), V0), (1, V2, (.mulL 2 V1)), (1, V3, V2)] rfl h0 (Int.not_le.mp h1) h2 (Int.le_of_eq h3))
theorem om201 {a : Int} : (Int.natAbs a) ≤ ((Int.natAbs a) + 2) := nabs_le (lin (C2 a ((Int.natAbs a) : Nat)) V0 (.add V1 (.num 2)) [(1, V0, V1)] rfl Int.le_natAbs) (lin (C2 a ((Int.natAbs a) : Nat)) (.neg V0) (.add V1 (.num 2)) [(1, (.neg V0), V1)] rfl neg_natAbs)
theorem om202 {c : Nat} {a b : Int} (h0 : a < 100) (h1 : ¬ (b < 0)) (h2 : ¬ (a < (((c : Nat) : Int) + b))) : (c + (Int.toNat b)) ≤ 200 := dL (lin (C4 a b c ((Int.toNat b) : Nat)) (.add V2 V3) (.num 200) [(1, (S1 V0), (.num 100)), (1, (.add V2 V1), V0), (1, V3, V1)] rfl h0 (Int.not_lt.mp h2) (Int.le_of_eq (Int.toNat_of_nonneg (lin (C4 a b c ((Int.toNat b) : Nat)) (.num 0) V1 [(1, (.num 0), V1)] rfl (Int.not_lt.mp h1)))))
theorem om203 {a : Int} (h0 : (Int.natAbs a) ≤ 4722366482869645213696) : (Int.natAbs a) < 1606938044258990275541962092341162602522202993782792835301376 := nabs_lt (lin (C2 a ((Int.natAbs a) : Nat)) (S1 V0) (.num 1606938044258990275541962092341162602522202993782792835301376) [(1, V1, (.num 4722366482869645213696)), (1, V0, V1)] rfl (uL h0) Int.le_natAbs) (lin (C2 a ((Int.natAbs a) : Nat)) (S1 (.neg V0)) (.num 1606938044258990275541962092341162602522202993782792835301376) [(1, V1, (.num 4722366482869645213696)), (1, (.neg V0), V1)] rfl (uL h0) neg_natAbs)
theorem om204 {b : Nat} {a : Int} (h0 : (Int.natAbs a) < 1180591620717411303424) (h1 : b = (Int.natAbs a)) : (Int.natAbs ((b : Nat) : Int)) ≤ 4722366482869645213696 := nabs_le (lin (C4 a ((Int.natAbs a) : Nat) b ((Int.natAbs ((b : Nat) : Int)) : Nat)) V2 (.num 4722366482869645213696) [(1, (S1 V1), (.num 1180591620717411303424)), (1, V2, V1)] rfl (uT h0) (uE h1)) (lin (C4 a ((Int.natAbs a) : Nat) b ((Int.natAbs ((b : Nat) : Int)) : Nat)) (.neg V2) (.num 4722366482869645213696) [(1, (.num 0), V2)] rfl (Int.natCast_nonneg b))
theorem om205 {b : Nat} {a : Int} (h0 : (Int.natAbs a) < 1180591620717411303424) (h1 : b ≤ (Int.natAbs a)) : (Int.natAbs ((b : Nat) : Int)) ≤ 4722366482869645213696 := nabs_le (lin (C4 a ((Int.natAbs a) : Nat) b ((Int.natAbs ((b : Nat) : Int)) : Nat)) V2 (.num 4722366482869645213696) [(1, (S1 V1), (.num 1180591620717411303424)), (1, V2, V1)] rfl (uT h0) (uL h1)) (lin (C4 a ((Int.natAbs a) : Nat) b ((Int.natAbs ((b : Nat) : Int)) : Nat)) (.neg V2) (.num 4722366482869645213696) [(1, (.num 0), V2)] rfl (Int.natCast_nonneg b))
theorem om206 {a : Nat} (h0 : a ≤ 70) : (Int.natAbs (((a : Nat) : Int) - 1)) ≤ 72 := nabs_le (lin (C2 a ((Int.natAbs (((a : Nat) : Int) - 1)) : Nat)) (.sub V0 (.num 1)) (.num 72) [(1, V0, (.num 70))] rfl (uL h0)) (lin (C2 a ((Int.natAbs (((a : Nat) : Int) - 1)) : Nat)) (.neg (.sub V0 (.num 1))) (.num 72) [(1, (.num 0), V0)] rfl (Int.natCast_nonneg a))
theorem om207 {a : Int} : (Int.natAbs (-a)) ≤ ((Int.natAbs a) + 2) := nabs_le (lin (C3 a ((Int.natAbs (-a)) : Nat) ((Int.natAbs a) : Nat)) (.neg V0) (.add V2 (.num 2)) [(1, (.neg V0), V2)] rfl neg_natAbs) (lin (C3 a ((Int.natAbs (-a)) : Nat) ((Int.natAbs a) : Nat)) (.neg (.neg V0)) (.add V2 (.num 2)) [(1, V0, V2)] rfl Int.le_natAbs)
theorem om208 {a : Int} : (Int.natAbs (a + 1)) ≤ ((Int.natAbs a) + 2) := nabs_le (lin (C3 a ((Int.natAbs (a + 1)) : Nat) ((Int.natAbs a) : Nat)) (S1 V0) (.add V2 (.num 2)) [(1, V0, V2)] rfl Int.le_natAbs) (lin (C3 a ((Int.natAbs (a + 1)) : Nat) ((Int.natAbs a) : Nat)) (.neg (S1 V0)) (.add V2 (.num 2)) [(1, (.neg V0), V2)] rfl neg_natAbs)
theorem om209 {a : Int} (h0 : ¬ (a < 0)) : (((Int.toNat a) : Nat) : Int) = a := Int.le_antisymm (lin (C2 a ((Int.toNat a) : Nat)) V1 V0 [(1, V1, V0)] rfl (Int.le_of_eq (Int.toNat_of_nonneg (lin (C2 a ((Int.toNat a) : Nat)) (.num 0) V0 [(1, (.num 0), V0)] rfl (Int.not_lt.mp h0))))) (lin (C2 a ((Int.toNat a) : Nat)) V0 V1 [(1, V0, V1)] rfl (Int.self_le_toNat a))
theorem om210 {a : Nat} (h0 : 2 ≤ a) : ((a : Nat) : Int) ≤ 2 * (((a : Nat) : Int) - 1) := lin (C1 a) V0 (.mulL 2 (.sub V0 (.num 1))) [(1, (.num 2), V0)] rfl (uL h0)
theorem om211 {b d : Nat} {a c : Int} (h0 : (Int.natAbs a) ≤ b) (h1 : (Int.natAbs c) ≤ d) : (Int.natAbs (a - c)) ≤ (b + d) := nabs_le (lin (C7 a ((Int.natAbs a) : Nat) b c ((Int.natAbs c) : Nat) d ((Int.natAbs (a - c)) : Nat)) (.sub V0 V3) (.add V2 V5) [(1, V1, V2), (1, V4, V5), (1, V0, V1), (1, (.neg V3), V4)] rfl (uL h0) (uL h1) Int.le_natAbs neg_natAbs) (lin (C7 a ((Int.natAbs a) : Nat) b c ((Int.natAbs c) : Nat) d ((Int.natAbs (a - c)) : Nat)) (.neg (.sub V0 V3)) (.add V2 V5) [(1, V1, V2), (1, V4, V5), (1, (.neg V0), V1), (1, V3, V4)] rfl (uL h0) (uL h1) neg_natAbs Int.le_natAbs)
theorem om212 {a b : Nat} (h0 : a < b) : (Int.natAbs ((-((a : Nat) : Int)) - 1)) ≤ b := nabs_le (lin (C3 a b ((Int.natAbs ((-((a : Nat) : Int)) - 1)) : Nat)) (.sub (.neg V0) (.num 1)) V1 [(1, (.num 0), V0), (1, (.num 0), V1)] rfl (Int.natCast_nonneg a) (Int.natCast_nonneg b)) (lin (C3 a b ((Int.natAbs ((-((a : Nat) : Int)) - 1)) : Nat)) (.neg (.sub (.neg V0) (.num 1))) V1 [(1, (S1 V0), V1)] rfl (uT h0))
theorem om213 {a : Int} : (Int.natAbs ((-a) - 1)) ≤ ((Int.natAbs a) + 1) := nabs_le (lin (C3 a ((Int.natAbs ((-a) - 1)) : Nat) ((Int.natAbs a) : Nat)) (.sub (.neg V0) (.num 1)) (S1 V2) [(1, (.neg V0), V2)] rfl neg_natAbs) (lin (C3 a ((Int.natAbs ((-a) - 1)) : Nat) ((Int.natAbs a) : Nat)) (.neg (.sub (.neg V0) (.num 1))) (S1 V2) [(1, V0, V2)] rfl Int.le_natAbs)
theorem om214 {a : Int} (h0 : (Int.natAbs a) ≤ 1) : (Int.natAbs a) ≤ 4722366482869645213696 := nabs_le (lin (C2 a ((Int.natAbs a) : Nat)) V0 (.num 4722366482869645213696) [(1, V1, (.num 1)), (1, V0, V1)] rfl (uL h0) Int.le_natAbs) (lin (C2 a ((Int.natAbs a) : Nat)) (.neg V0) (.num 4722366482869645213696) [(1, V1, (.num 1)), (1, (.neg V0), V1)] rfl (uL h0) neg_natAbs)
theorem om216 {a b c : Nat} (h0 : (c + a + b) < 80000) : (c + a + b) < 90000 := dT (lin (C3 a b c) (S1 (.add (.add V2 V0) V1)) (.num 90000) [(1, (S1 (.add (.add V2 V0) V1)), (.num 80000))] rfl (uT h0))
theorem om217 {a b c : Nat} : (((a + (b + c) : Nat) : Int) - 1) = (((a : Nat) : Int) + ((b : Nat) : Int) + ((c : Nat) : Int) - 1) := Int.le_antisymm (lin (C3 a b c) (.sub (.add V0 (.add V1 V2)) (.num 1)) (.sub (.add (.add V0 V1) V2) (.num 1)) [] rfl ) (lin (C3 a b c) (.sub (.add (.add V0 V1) V2) (.num 1)) (.sub (.add V0 (.add V1 V2)) (.num 1)) [] rfl )
theorem om218 {a b c : Nat} {d : Int} (h0 : (a + 8 * (b + 4)) < c) (h1 : (Int.toNat d) < b) : (a + 3 + 8 * ((Int.toNat d) + 4)) < c := dT (lin (C5 a b c d ((Int.toNat d) : Nat)) (S1 (.add (.add V0 (.num 3)) (.mulL 8 (.add V4 (.num 4))))) V2 [(1, (S1 (.add V0 (.mulL 8 (.add V1 (.num 4))))), V2), (8, (S1 V4), V1)] rfl (uT h0) (uT h1))
theorem om219 {a b c : Nat} {d : Int} (h0 : (a + (b + 4)) < c) (h1 : (Int.toNat d) < b) : (a + 1 + ((Int.toNat d) + 4)) < c := dT (lin (C5 a b c d ((Int.toNat d) : Nat)) (S1 (.add (S1 V0) (.add V4 (.num 4)))) V2 [(1, (S1 (.add V0 (.add V1 (.num 4)))), V2), (1, (S1 V4), V1)] rfl (uT h0) (uT h1))
theorem om221 {a b e f g h : Nat} {c d : Int} (h0 : (a + 2 * b) ≤ 1000) (h1 : c ≤ 6) (h2 : d ≤ 6) (h3 : ((e : Nat) : Int) ≤ (2 * c + 1)) (h4 : f = e) (h5 : ((g : Nat) : Int) ≤ (2 * d + 1)) (h6 : h = g) : (a + (f + h)) < 1000000 := dT (lin (C8 a b c d e f g h) (S1 (.add V0 (.add V5 V7))) (.num 1000000) [(1, (.add V0 (.mulL 2 V1)), (.num 1000)), (2, V2, (.num 6)), (2, V3, (.num 6)), (1, V4, (S1 (.mulL 2 V2))), (1, V5, V4), (1, V6, (S1 (.mulL 2 V3))), (1, V7, V6), (2, (.num 0), V1)] rfl (uL h0) h1 h2 h3 (uE h4) h5 (uE h6) (Int.natCast_nonneg b))
theorem om222 {a b : Nat} (h0 : (a + 2 * b) ≤ 1000) : a < 1000000 := dT (lin (C2 a b) (S1 V0) (.num 1000000) [(1, (.add V0 (.mulL 2 V1)), (.num 1000)), (2, (.num 0), V1)] rfl (uL h0) (Int.natCast_nonneg b))
theorem om223 {a b : Nat} : (((a + b : Nat) : Int) - 1) = (((a : Nat) : Int) + ((b : Nat) : Int) - 1) := Int.le_antisymm (lin (C2 a b) (.sub (.add V0 V1) (.num 1)) (.sub (.add V0 V1) (.num 1)) [] rfl ) (lin (C2 a b) (.sub (.add V0 V1) (.num 1)) (.sub (.add V0 V1) (.num 1)) [] rfl )
theorem om224 {a b c e : Nat} {d f : Int} (h0 : (a + 2 * b) ≤ 9000) (h1 : ((c : Nat) : Int) ≤ (2 * d + 1)) (h2 : (Int.toNat d) < b) (h3 : ((e : Nat) : Int) ≤ (2 * f + 1)) (h4 : (Int.toNat f) < b) : (a + c + e) < 80000 := dT (lin (C8 a b c d ((Int.toNat d) : Nat) e f ((Int.toNat f) : Nat)) (S1 (.add (.add V0 V2) V5)) (.num 80000) [(2, (.add V0 (.mulL 2 V1)), (.num 9000)), (1, V2, (S1 (.mulL 2 V3))), (2, (S1 V4), V1), (1, V5, (S1 (.mulL 2 V6))), (2, (S1 V7), V1), (1, (.num 0), V0), (2, V3, V4), (2, V6, V7)] rfl (uL h0) h1 (uT h2) h3 (uT h4) (Int.natCast_nonneg a) (Int.self_le_toNat d) (Int.self_le_toNat f))
theorem om225 {a : Nat} {b : Int} (h0 : ((a : Nat) : Int) ≤ (2 * (b - 1) + 1)) : ((a + 1 : Nat) : Int) ≤ (2 * b + 1) := lin (C2 a b) (S1 V0) (S1 (.mulL 2 V1)) [(1, V0, (S1 (.mulL 2 (.sub V1 (.num 1)))))] rfl h0
theorem om226 {a b : Nat} (h0 : (a + 2 * b) ≤ 9000) : a < 10000 := dT (lin (C2 a b) (S1 V0) (.num 10000) [(1, (.add V0 (.mulL 2 V1)), (.num 9000)), (2, (.num 0), V1)] rfl (uL h0) (Int.natCast_nonneg b))
theorem om227 {a : Int} (h0 : (0 : Int) ≤ a) : ((1 : Nat) : Int) ≤ (2 * a + 1) := lin (C1 a) (.num 1) (S1 (.mulL 2 V0)) [(2, (.num 0), V0)] rfl h0
theorem om228 {b c d e : Nat} {a : Int} (h0 : (Int.toNat a) = b) (h1 : (0 : Int) ≤ a) (h2 : (c + 2 * b) ≤ d) (h3 : ((e : Nat) : Int) ≤ (2 * ((a - 1) / 2) + 1)) : (c + e + 2 * (Int.toNat (a / 2))) ≤ d := dL (lin (.branch 1 (.leaf a) (.branch 2 (.leaf ((Int.toNat a) : Nat)) (.branch 3 (.leaf b) (.branch 4 (.leaf c) (.branch 5 (.leaf d) (.branch 6 (.leaf e) (.branch 7 (.leaf (((a - 1) / 2) : Int)) (.branch 8 (.leaf ((a / 2) : Int)) (.leaf ((Int.toNat (a / 2)) : Nat)))))))))) (.add (.add V3 V5) (.mulL 2 (.var 8))) V4 [(2, V1, V2), (1, (.add V3 (.mulL 2 V2)), V4), (1, V5, (S1 (.mulL 2 V6))), (2, V0, V1), (1, (.mulL 2 V6), (.sub V0 (.num 1))), (1, (.mulL 2 V7), V0), (2, (.var 8), V7)] rfl (uE h0) (uL h2) h3 (Int.self_le_toNat a) (Int.mul_ediv_self_le (by decide)) (Int.mul_ediv_self_le (by decide)) (Int.le_of_eq (Int.toNat_of_nonneg (linK 2 (.branch 1 (.leaf a) (.branch 2 (.leaf ((Int.toNat a) : Nat)) (.branch 3 (.leaf b) (.branch 4 (.leaf c) (.branch 5 (.leaf d) (.branch 6 (.leaf e) (.branch 7 (.leaf (((a - 1) / 2) : Int)) (.branch 8 (.leaf ((a / 2) : Int)) (.leaf ((Int.toNat (a / 2)) : Nat)))))))))) (.num 0) V7 [(1, (.num 0), V0), (1, (S1 V0), (.add (.mulL 2 V7) (.num 2)))] rfl h1 (Int.lt_mul_ediv_self_add (by decide))))))
theorem om229 {b c d e : Nat} {a : Int} (h0 : a ≤ 6) (h1 : (b + 2 * c) ≤ 1000) (h2 : ((d : Nat) : Int) ≤ (2 * (a - 1) + 1)) (h3 : e = d) : (b + e) < 1000000 := dT (lin (C5 a b c d e) (S1 (.add V1 V4)) (.num 1000000) [(2, V0, (.num 6)), (1, (.add V1 (.mulL 2 V2)), (.num 1000)), (1, V3, (S1 (.mulL 2 (.sub V0 (.num 1))))), (1, V4, V3), (2, (.num 0), V2)] rfl h0 (uL h1) h2 (uE h3) (Int.natCast_nonneg c))
theorem om230 {a b c d : Nat} {e : Int} (h0 : (a + 2 * b) ≤ 1000) (h1 : c = d) (h2 : ((d : Nat) : Int) ≤ (2 * e + 1)) (h3 : (Int.toNat e) < b) : (a + c) < 1000000 := dT (lin (C6 a b c d e ((Int.toNat e) : Nat)) (S1 (.add V0 V2)) (.num 1000000) [(1, (.add V0 (.mulL 2 V1)), (.num 1000)), (1, V2, V3), (1, V3, (S1 (.mulL 2 V4))), (2, (S1 V5), V1), (2, V4, V5)] rfl (uL h0) (uE h1) h2 (uT h3) (Int.self_le_toNat e))
theorem om231 {a b : Nat} (h0 : (b + a) < 80000) : (b + a) < 90000 := dT (lin (C2 a b) (S1 (.add V1 V0)) (.num 90000) [(1, (S1 (.add V1 V0)), (.num 80000))] rfl (uT h0))
theorem om232 {a b c d f g : Nat} {e h : Int} (h0 : (a + 2 * b) ≤ 1000) (h1 : c = d) (h2 : ((d : Nat) : Int) ≤ (2 * e + 1)) (h3 : (Int.toNat e) < b) (h4 : f = g) (h5 : ((g : Nat) : Int) ≤ (2 * h + 1)) (h6 : (Int.toNat h) < b) : (a + (c + f)) < 1000000 := dT (lin (.branch 1 (.leaf a) (.branch 2 (.leaf b) (.branch 3 (.leaf c) (.branch 4 (.leaf d) (.branch 5 (.leaf e) (.branch 6 (.leaf ((Int.toNat e) : Nat)) (.branch 7 (.leaf f) (.branch 8 (.leaf g) (.branch 9 (.leaf h) (.leaf ((Int.toNat h) : Nat))))))))))) (S1 (.add V0 (.add V2 V6))) (.num 1000000) [(2, (.add V0 (.mulL 2 V1)), (.num 1000)), (1, V2, V3), (1, V3, (S1 (.mulL 2 V4))), (2, (S1 V5), V1), (1, V6, V7), (1, V7, (S1 (.mulL 2 (.var 8)))), (2, (S1 (.var 9)), V1), (1, (.num 0), V0), (2, V4, V5), (2, (.var 8), (.var 9))] rfl (uL h0) (uE h1) h2 (uT h3) (uE h4) h5 (uT h6) (Int.natCast_nonneg a) (Int.self_le_toNat e) (Int.self_le_toNat h))
theorem om233 {a b d e : Nat} {c : Int} (h0 : (a + 2 * b) ≤ 1000) (h1 : c ≤ 6) (h2 : ((d : Nat) : Int) ≤ (2 * c + 1)) (h3 : e = d) : (a + e) < 1000000 := dT (lin (C5 a b c d e) (S1 (.add V0 V4)) (.num 1000000) [(1, (.add V0 (.mulL 2 V1)), (.num 1000)), (2, V2, (.num 6)), (1, V3, (S1 (.mulL 2 V2))), (1, V4, V3), (2, (.num 0), V1)] rfl (uL h0) h1 h2 (uE h3) (Int.natCast_nonneg b))
theorem om234 {a b c : Nat} {d : Int} (h0 : (a + 2 * b) ≤ c) (h1 : (Int.toNat d) < b) : (a + 2 * (Int.toNat d)) ≤ c := dL (lin (C5 a b c d ((Int.toNat d) : Nat)) (.add V0 (.mulL 2 V4)) V2 [(1, (.add V0 (.mulL 2 V1)), V2), (2, (S1 V4), V1)] rfl (uL h0) (uT h1))
theorem om235 {a b c : Nat} {d : Int} (h0 : (a + 2 * b) ≤ 9000) (h1 : ((c : Nat) : Int) ≤ (2 * d + 1)) (h2 : (Int.toNat d) < b) : (a + c) < 80000 := dT (lin (C5 a b c d ((Int.toNat d) : Nat)) (S1 (.add V0 V2)) (.num 80000) [(1, (.add V0 (.mulL 2 V1)), (.num 9000)), (1, V2, (S1 (.mulL 2 V3))), (2, (S1 V4), V1), (2, V3, V4)] rfl (uL h0) h1 (uT h2) (Int.self_le_toNat d))
theorem om236 {a b c : Nat} (h0 : (a + (b + 4)) < c) : a < c := dT (lin (C3 a b c) (S1 V0) V2 [(1, (S1 (.add V0 (.add V1 (.num 4)))), V2), (1, (.num 0), V1)] rfl (uT h0) (Int.natCast_nonneg b))
theorem om237 {b : Nat} {a : Int} (h0 : (Int.toNat a) = b) (h1 : (0 : Int) ≤ a) (h2 : a ≤ 6) (h3 : a ≠ 0) : ((Int.toNat (a / 2)) < b) ∧ (((0 : Int) ≤ (a / 2)) ∧ ((a / 2) ≤ 6)) := ⟨dT (linK 20 (C5 a ((Int.toNat a) : Nat) b ((a / 2) : Int) ((Int.toNat (a / 2)) : Nat)) (S1 V4) V2 [(11, V1, V2), (9, (.num 0), V2), (11, V0, V1), (10, (.mulL 2 V3), V0), (20, V4, V3), (1, (S1 (.num 0)), V0)] rfl (uE h0) (Int.natCast_nonneg b) (Int.self_le_toNat a) (Int.mul_ediv_self_le (by decide)) (Int.le_of_eq (Int.toNat_of_nonneg (linK 2 (C5 a ((Int.toNat a) : Nat) b ((a / 2) : Int) ((Int.toNat (a / 2)) : Nat)) (.num 0) V3 [(1, (.num 0), V0), (1, (S1 V0), (.add (.mulL 2 V3) (.num 2)))] rfl h1 (Int.lt_mul_ediv_self_add (by decide))))) (Int.lt_iff_le_and_ne.mpr ⟨lin (C5 a ((Int.toNat a) : Nat) b ((a / 2) : Int) ((Int.toNat (a / 2)) : Nat)) (.num 0) V0 [(1, (.num 0), V0)] rfl h1, h3.symm⟩)), ⟨linK 2 (C5 a ((Int.toNat a) : Nat) b ((a / 2) : Int) ((Int.toNat (a / 2)) : Nat)) (.num 0) V3 [(1, (.num 0), V0), (1, (S1 V0), (.add (.mulL 2 V3) (.num 2)))] rfl h1 (Int.lt_mul_ediv_self_add (by decide)), linK 2 (C5 a ((Int.toNat a) : Nat) b ((a / 2) : Int) ((Int.toNat (a / 2)) : Nat)) V3 (.num 6) [(1, V0, (.num 6)), (1, (.mulL 2 V3), V0)] rfl h2 (Int.mul_ediv_self_le (by decide))⟩⟩
theorem om238 {a : Nat} : (2 * a + 2) = 2 * (a + 1) := Nat.le_antisymm (dL (lin (C1 a) (.add (.mulL 2 V0) (.num 2)) (.mulL 2 (S1 V0)) [] rfl )) (dL (lin (C1 a) (.mulL 2 (S1 V0)) (.add (.mulL 2 V0) (.num 2)) [] rfl ))
theorem om246 {a b c d : Nat} (h0 : (a + 1) = b) (h1 : (c + 1) = d) : (a + 1 + (c + 1) + 1) = (b + d + 1) := Nat.le_antisymm (dL (lin (C4 a b c d) (S1 (.add (S1 V0) (S1 V2))) (S1 (.add V1 V3)) [(1, (S1 V0), V1), (1, (S1 V2), V3)] rfl (uE h0) (uE h1))) (dL (lin (C4 a b c d) (S1 (.add V1 V3)) (S1 (.add (S1 V0) (S1 V2))) [(1, V1, (S1 V0)), (1, V3, (S1 V2))] rfl (uE h0.symm) (uE h1.symm)))
theorem om247 {a b c d : Nat} (h0 : (a + 1) = b) : (((c : Nat) : Int) + ((d : Nat) : Int) + ((b : Nat) : Int) - 1) = ((c + d + a : Nat) : Int) := Int.le_antisymm (lin (C4 a b c d) (.sub (.add (.add V2 V3) V1) (.num 1)) (.add (.add V2 V3) V0) [(1, V1, (S1 V0))] rfl (uE h0.symm)) (lin (C4 a b c d) (.add (.add V2 V3) V0) (.sub (.add (.add V2 V3) V1) (.num 1)) [(1, (S1 V0), V1)] rfl (uE h0))
theorem om248 {a : Int} (h0 : ((-73786976294838206464) : Int) ≤ a) (h1 : a ≤ 73786976294838206464) : (Int.natAbs a) < 1180591620717411303424 := nabs_lt (lin (C2 a ((Int.natAbs a) : Nat)) (S1 V0) (.num 1180591620717411303424) [(1, V0, (.num 73786976294838206464))] rfl h1) (lin (C2 a ((Int.natAbs a) : Nat)) (S1 (.neg V0)) (.num 1180591620717411303424) [(1, (.num (-73786976294838206464)), V0)] rfl h0)
theorem om249 {b : Nat} {a : Int} (h0 : a ≤ 70) (h1 : ¬ (a < ((b : Nat) : Int))) : b ≤ 70 := dL (lin (C2 a b) V1 (.num 70) [(1, V0, (.num 70)), (1, V1, V0)] rfl h0 (Int.not_lt.mp h1))
theorem om250 {a b c : Nat} (h0 : (a + 1) = b) : (((c : Nat) : Int) + ((b : Nat) : Int) - 1) = ((c + a : Nat) : Int) := Int.le_antisymm (lin (C3 a b c) (.sub (.add V2 V1) (.num 1)) (.add V2 V0) [(1, V1, (S1 V0))] rfl (uE h0.symm)) (lin (C3 a b c) (.add V2 V0) (.sub (.add V2 V1) (.num 1)) [(1, (S1 V0), V1)] rfl (uE h0))
theorem om251 {a b : Nat} (h0 : b = (a + 1)) : (0 : Int) ≤ (((b : Nat) : Int) - 1) := linK 20 (C2 a b) (.num 0) (.sub V1 (.num 1)) [(1, (S1 V0), V1), (1, (.num 0), V0), (19, (.num 0), V1)] rfl (uE h0.symm) (Int.natCast_nonneg a) (Int.natCast_nonneg b)
theorem om252 {a : Nat} (h0 : a < 1000000) : (((a : Nat) : Int) + 1) < 9223372036854775808 := lin (C1 a) (S1 (S1 V0)) (.num 9223372036854775808) [(1, (S1 V0), (.num 1000000))] rfl (uT h0)
theorem om253 {a b : Nat} (h0 : a < 1000000) (h1 : b = (a + 1)) : (((b : Nat) : Int) - 1) < 2 ^ 63 := lin (C2 a b) (S1 (.sub V1 (.num 1))) (.num 9223372036854775808) [(1, (S1 V0), (.num 1000000)), (1, V1, (S1 V0))] rfl (uT h0) (uE h1)
theorem om254 {a b : Nat} (h0 : b = (a + 1)) : (Int.toNat (((b : Nat) : Int) - 1)) = a := Nat.le_antisymm (dL (lin (C3 a b ((Int.toNat (((b : Nat) : Int) - 1)) : Nat)) V2 V0 [(1, V1, (S1 V0)), (1, V2, (.sub V1 (.num 1)))] rfl (uE h0) (Int.le_of_eq (Int.toNat_of_nonneg (linK 20 (C3 a b ((Int.toNat (((b : Nat) : Int) - 1)) : Nat)) (.num 0) (.sub V1 (.num 1)) [(1, (S1 V0), V1), (1, (.num 0), V0), (19, (.num 0), V1)] rfl (uE h0.symm) (Int.natCast_nonneg a) (Int.natCast_nonneg b)))))) (dL (lin (C3 a b ((Int.toNat (((b : Nat) : Int) - 1)) : Nat)) V0 V2 [(1, (S1 V0), V1), (1, (.sub V1 (.num 1)), V2)] rfl (uE h0.symm) (Int.self_le_toNat (((b : Nat) : Int) - 1))))
theorem om255 {a : Nat} (h0 : a < 50000) : (a + 1) ≤ 80000 := dL (lin (C1 a) (S1 V0) (.num 80000) [(1, (S1 V0), (.num 50000))] rfl (uT h0))
theorem om256 {a : Nat} (h0 : a < 50000) : a ≤ 90000 := dL (lin (C1 a) V0 (.num 90000) [(1, (S1 V0), (.num 50000))] rfl (uT h0))
theorem om257 {a : Nat} (h0 : 0 < a) (h1 : a < (0 + 1 + 1)) : a = 1 := Nat.le_antisymm (dL (lin (C1 a) V0 (.num 1) [(1, (S1 V0), (S1 (S1 (.num 0))))] rfl (uT h1))) (dL (lin (C1 a) (.num 1) V0 [(1, (S1 (.num 0)), V0)] rfl (uT h0)))
theorem om260 {b : Nat} {a : Int} (h0 : a < ((b : Nat) : Int)) (h1 : b < 1000000) : a < 2 ^ 63 := lin (C2 a b) (S1 V0) (.num 9223372036854775808) [(1, (S1 V0), V1), (1, (S1 V1), (.num 1000000))] rfl h0 (uT h1)
theorem om261 {a b : Nat} {c d : Int} (h0 : a < 90000) (h1 : b = a) (h2 : (Int.toNat (c + 1 + d - 1)) < b) : (c + 1 + d - 1) < 2 ^ 63 := lin (C5 a b c d ((Int.toNat (c + 1 + d - 1)) : Nat)) (S1 (.sub (.add (S1 V2) V3) (.num 1))) (.num 9223372036854775808) [(1, (S1 V0), (.num 90000)), (1, V1, V0), (1, (S1 V4), V1), (1, (.sub (.add (S1 V2) V3) (.num 1)), V4)] rfl (uT h0) (uE h1) (uT h2) (Int.self_le_toNat (c + 1 + d - 1))
theorem om262 {a b : Nat} {c : Int} (h0 : a < 90000) (h1 : b = a) (h2 : (Int.toNat c) < b) : c < 2 ^ 63 := lin (C4 a b c ((Int.toNat c) : Nat)) (S1 V2) (.num 9223372036854775808) [(1, (S1 V0), (.num 90000)), (1, V1, V0), (1, (S1 V3), V1), (1, V2, V3)] rfl (uT h0) (uE h1) (uT h2) (Int.self_le_toNat c)
theorem om263 {a : Nat} : (a + 1) ≤ (a + 2) := dL (lin (C1 a) (S1 V0) (.add V0 (.num 2)) [] rfl )
theorem om264 {a b : Nat} (h0 : a < b) : ¬ (((b : Nat) : Int) ≤ ((a : Nat) : Int)) := fun hg => linF (C2 a b) [(1, (S1 V0), V1), (1, V1, V0)] rfl (uT h0) hg
theorem om266 {a : Nat} (h0 : 1 < a) : 2 ≤ a := dL (lin (C1 a) (.num 2) V0 [(1, (S1 (.num 1)), V0)] rfl (uT h0))
theorem om269 {a b : Nat} (h0 : a < b) : ((a : Nat) : Int) < ((b : Nat) : Int) := lin (C2 a b) (S1 V0) V1 [(1, (S1 V0), V1)] rfl (uT h0)
theorem om270 {a b c d : Nat} (h0 : a ≤ b) (h1 : (c + b) < d) : (c + a) < d := dT (lin (C4 a b c d) (S1 (.add V2 V0)) V3 [(1, V0, V1), (1, (S1 (.add V2 V1)), V3)] rfl (uL h0) (uT h1))
theorem om271 {a b : Nat} (h0 : (a + 3 * b) < 80000) : a < 80000 := dT (lin (C2 a b) (S1 V0) (.num 80000) [(1, (S1 (.add V0 (.mulL 3 V1))), (.num 80000)), (3, (.num 0), V1)] rfl (uT h0) (Int.natCast_nonneg b))
theorem om272 {a b c d : Nat} (h0 : a ≤ b) (h1 : (c + 8 * b) < d) : (c + 8 * a) < d := dT (lin (C4 a b c d) (S1 (.add V2 (.mulL 8 V0))) V3 [(8, V0, V1), (1, (S1 (.add V2 (.mulL 8 V1))), V3)] rfl (uL h0) (uT h1))
theorem om273 {a b : Nat} (h0 : a < b) : a ≤ b := dL (lin (C2 a b) V0 V1 [(1, (S1 V0), V1)] rfl (uT h0))
theorem om274 {a b : Nat} (h0 : a < b) : 1 ≤ (b - a) := dL (linK 20 (C3 a b ((b - a) : Nat)) (.num 1) V2 [(1, (S1 V0), V1), (19, (.num 0), V2), (1, V1, (.add V2 V0))] rfl (uT h0) (Int.natCast_nonneg (b - a)) (uL (Nat.sub_le_iff_le_add.mp (Nat.le_refl _))))
theorem om275 {a : Nat} {b : Int} (h0 : a < 100000) (h1 : (Int.toNat b) < a) : b < 2 ^ 63 := lin (C3 a b ((Int.toNat b) : Nat)) (S1 V1) (.num 9223372036854775808) [(1, (S1 V0), (.num 100000)), (1, (S1 V2), V0), (1, V1, V2)] rfl (uT h0) (uT h1) (Int.self_le_toNat b)
theorem om276 {a : Nat} (h0 : (a + 2) < 2) : False := linF (C1 a) [(1, (S1 (.add V0 (.num 2))), (.num 2)), (1, (.num 0), V0)] rfl (uT h0) (Int.natCast_nonneg a)
theorem om278 {a b c : Nat} (h0 : b = (a + c)) (h1 : c = 1) (h2 : ¬ ((0 : Int) < ((b : Nat) : Int))) : False := linF (C3 a b c) [(1, V1, (.num 0)), (1, (.add V0 V2), V1), (1, (.num 1), V2), (1, (.num 0), V0)] rfl (Int.not_lt.mp h2) (uE h0.symm) (uE h1.symm) (Int.natCast_nonneg a)
theorem on8 {a b c : Nat} (h0 : a < 400) (h1 : (b + c) ≤ 2 * a) : b ≤ 100000 := dL (lin (C3 a b c) V1 (.num 100000) [(2, (S1 V0), (.num 400)), (1, (.add V1 V2), (.mulL 2 V0)), (1, (.num 0), V2)] rfl (uT h0) (uL h1) (Int.natCast_nonneg c))
theorem on27 {a b c d e f : Nat} (h0 : (a + 3 * (b + c)) ≤ d) (h1 : (e + 1) = b) (h2 : f ≤ 2) : (a + (f + 1) + 3 * (c + e)) ≤ d := dL (lin (C6 a b c d e f) (.add (.add V0 (S1 V5)) (.mulL 3 (.add V2 V4))) V3 [(1, (.add V0 (.mulL 3 (.add V1 V2))), V3), (3, (S1 V4), V1), (1, V5, (.num 2))] rfl (uL h0) (uE h1) (uL h2))
theorem on28 {a b c d : Nat} (h0 : (a + 1) = b) (h1 : c ≤ 2) : (d + (c + 1) + 3 * a) ≤ (d + 3 * b) := dL (lin (C4 a b c d) (.add (.add V3 (S1 V2)) (.mulL 3 V0)) (.add V3 (.mulL 3 V1)) [(3, (S1 V0), V1), (1, V2, (.num 2))] rfl (uE h0) (uL h1))
theorem on29 {a b c : Nat} (h0 : (a + 1 + b) < (a + 1 + c)) : b < c := dT (lin (C3 a b c) (S1 V1) V2 [(1, (S1 (.add (S1 V0) V1)), (.add (S1 V0) V2))] rfl (uT h0))
theorem on30 {a b : Nat} : a < (a + (b + 1)) := dT (lin (C2 a b) (S1 V0) (.add V0 (S1 V1)) [(1, (.num 0), V1)] rfl (Int.natCast_nonneg b))
theorem on31 {a b : Nat} : (a + 1 + b) = (a + (b + 1)) := Nat.le_antisymm (dL (lin (C2 a b) (.add (S1 V0) V1) (.add V0 (S1 V1)) [] rfl )) (dL (lin (C2 a b) (.add V0 (S1 V1)) (.add (S1 V0) V1) [] rfl ))
theorem on32 {a b : Nat} (h0 : (a + 1) ≤ (a + 1 + b)) : (a + 1 + b - a) = (b + 1) := Nat.le_antisymm (dL (lin (C3 a b ((a + 1 + b - a) : Nat)) V2 (S1 V1) [(1, (.add V2 V0), (.add (S1 V0) V1))] rfl (uL (Nat.le_of_eq (Nat.sub_add_cancel (dL (lin (C3 a b ((a + 1 + b - a) : Nat)) V0 (.add (S1 V0) V1) [(1, (S1 V0), (.add (S1 V0) V1))] rfl (uL h0)))))))) (dL (lin (C3 a b ((a + 1 + b - a) : Nat)) (S1 V1) V2 [(1, (.add (S1 V0) V1), (.add V2 V0))] rfl (uL (Nat.sub_le_iff_le_add.mp (Nat.le_refl _)))))
theorem on34 {b : Nat} {a : Int} (h0 : (Int.toNat a) = b) (h1 : (0 : Int) ≤ a) (h2 : a ≤ 6) (h3 : a ≠ 0) : ((Int.toNat ((a - 1) / 2)) < b) ∧ (((0 : Int) ≤ ((a - 1) / 2)) ∧ (((a - 1) / 2) ≤ 6)) := ⟨dT (linK 2 (C5 a ((Int.toNat a) : Nat) b (((a - 1) / 2) : Int) ((Int.toNat ((a - 1) / 2)) : Nat)) (S1 V4) V2 [(2, V1, V2), (2, V0, V1), (1, (.mulL 2 V3), (.sub V0 (.num 1))), (1, (S1 (.num 0)), V0), (2, V4, V3)] rfl (uE h0) (Int.self_le_toNat a) (Int.mul_ediv_self_le (by decide)) (Int.lt_iff_le_and_ne.mpr ⟨lin (C5 a ((Int.toNat a) : Nat) b (((a - 1) / 2) : Int) ((Int.toNat ((a - 1) / 2)) : Nat)) (.num 0) V0 [(1, (.num 0), V0)] rfl h1, h3.symm⟩) (Int.le_of_eq (Int.toNat_of_nonneg (linK 20 (C5 a ((Int.toNat a) : Nat) b (((a - 1) / 2) : Int) ((Int.toNat ((a - 1) / 2)) : Nat)) (.num 0) V3 [(9, (.num 0), V0), (10, (S1 (.sub V0 (.num 1))), (.add (.mulL 2 V3) (.num 2))), (1, (S1 (.num 0)), V0)] rfl h1 (Int.lt_mul_ediv_self_add (by decide)) (Int.lt_iff_le_and_ne.mpr ⟨lin (C5 a ((Int.toNat a) : Nat) b (((a - 1) / 2) : Int) ((Int.toNat ((a - 1) / 2)) : Nat)) (.num 0) V0 [(1, (.num 0), V0)] rfl h1, h3.symm⟩))))), ⟨lin (C5 a ((Int.toNat a) : Nat) b (((a - 1) / 2) : Int) ((Int.toNat ((a - 1) / 2)) : Nat)) (.num 0) V3 [(1, (.num 0), V4), (1, V4, V3)] rfl (Int.natCast_nonneg (Int.toNat ((a - 1) / 2))) (Int.le_of_eq (Int.toNat_of_nonneg (linK 20 (C5 a ((Int.toNat a) : Nat) b (((a - 1) / 2) : Int) ((Int.toNat ((a - 1) / 2)) : Nat)) (.num 0) V3 [(9, (.num 0), V0), (10, (S1 (.sub V0 (.num 1))), (.add (.mulL 2 V3) (.num 2))), (1, (S1 (.num 0)), V0)] rfl h1 (Int.lt_mul_ediv_self_add (by decide)) (Int.lt_iff_le_and_ne.mpr ⟨lin (C5 a ((Int.toNat a) : Nat) b (((a - 1) / 2) : Int) ((Int.toNat ((a - 1) / 2)) : Nat)) (.num 0) V0 [(1, (.num 0), V0)] rfl h1, h3.symm⟩)))), linK 2 (C5 a ((Int.toNat a) : Nat) b (((a - 1) / 2) : Int) ((Int.toNat ((a - 1) / 2)) : Nat)) V3 (.num 6) [(1, V0, (.num 6)), (1, (.mulL 2 V3), (.sub V0 (.num 1)))] rfl h2 (Int.mul_ediv_self_le (by decide))⟩⟩
theorem on35 {b : Nat} {a : Int} (h0 : (Int.toNat a) = b) (h1 : (0 : Int) ≤ a) (h2 : a ≤ 6) (h3 : a ≠ 0) : ((Int.toNat (a - 1)) < b) ∧ (((0 : Int) ≤ (a - 1)) ∧ ((a - 1) ≤ 6)) := ⟨dT (lin (C4 a ((Int.toNat a) : Nat) b ((Int.toNat (a - 1)) : Nat)) (S1 V3) V2 [(1, V1, V2), (1, V0, V1), (1, V3, (.sub V0 (.num 1)))] rfl (uE h0) (Int.self_le_toNat a) (Int.le_of_eq (Int.toNat_of_nonneg (lin (C4 a ((Int.toNat a) : Nat) b ((Int.toNat (a - 1)) : Nat)) (.num 0) (.sub V0 (.num 1)) [(1, (S1 (.num 0)), V0)] rfl (Int.lt_iff_le_and_ne.mpr ⟨lin (C4 a ((Int.toNat a) : Nat) b ((Int.toNat (a - 1)) : Nat)) (.num 0) V0 [(1, (.num 0), V0)] rfl h1, h3.symm⟩))))), ⟨lin (C4 a ((Int.toNat a) : Nat) b ((Int.toNat (a - 1)) : Nat)) (.num 0) (.sub V0 (.num 1)) [(1, (S1 (.num 0)), V0)] rfl (Int.lt_iff_le_and_ne.mpr ⟨lin (C4 a ((Int.toNat a) : Nat) b ((Int.toNat (a - 1)) : Nat)) (.num 0) V0 [(1, (.num 0), V0)] rfl h1, h3.symm⟩), lin (C4 a ((Int.toNat a) : Nat) b ((Int.toNat (a - 1)) : Nat)) (.sub V0 (.num 1)) (.num 6) [(1, V0, (.num 6))] rfl h2⟩⟩
theorem on36 {a b : Nat} : (2 * a + (2 * b + 0) + 2) = 2 * (a + b + 1) := Nat.le_antisymm (dL (lin (C2 a b) (.add (.add (.mulL 2 V0) (.add (.mulL 2 V1) (.num 0))) (.num 2)) (.mulL 2 (S1 (.add V0 V1))) [] rfl )) (dL (lin (C2 a b) (.mulL 2 (S1 (.add V0 V1))) (.add (.add (.mulL 2 V0) (.add (.mulL 2 V1) (.num 0))) (.num 2)) [] rfl ))
theorem op0 {a : Nat} (h0 : ((a : Nat) : Int) ≤ (2 * 6 + 1)) : a < 400 := dT (lin (C1 a) (S1 V0) (.num 400) [(1, V0, (S1 (.num 12)))] rfl h0)
theorem op1 {a b c : Nat} (h0 : ((a : Nat) : Int) ≤ (2 * 6 + 1)) (h1 : b ≤ (3 * a + 10 * c)) (h2 : c = a) : b < 100000 := dT (lin (C3 a b c) (S1 V1) (.num 100000) [(13, V0, (S1 (.num 12))), (1, V1, (.add (.mulL 3 V0) (.mulL 10 V2))), (10, V2, V0)] rfl h0 (uL h1) (uE h2))
theorem op2 {a : Int} (h0 : a < 16) : a < 2 ^ 63 := lin (C1 a) (S1 V0) (.num 9223372036854775808) [(1, (S1 V0), (.num 16))] rfl h0
theorem op3 {a : Nat} (h0 : a = 9900) : (4 + 3 + 8 * 6) < a := dT (lin (C1 a) (S1 (.add (.add (.num 4) (.num 3)) (.num 48))) V0 [(1, (.num 9900), V0)] rfl (uE h0.symm))
theorem op4 {a : Int} (h0 : a < 60) : (6 + a) ≤ 70 := lin (C1 a) (.add (.num 6) V0) (.num 70) [(1, (S1 V0), (.num 60))] rfl h0
theorem op5 {a b c d e : Nat} (h0 : a < b) (h1 : b < c) (h2 : c < d) (h3 : d < e) : ¬ (a = e) := fun hg => linF (C5 a b c d e) [(1, (S1 V0), V1), (1, (S1 V1), V2), (1, (S1 V2), V3), (1, (S1 V3), V4), (1, V4, V0)] rfl (uT h0) (uT h1) (uT h2) (uT h3) (uE hg.symm)
theorem op6 {a : Nat} (h0 : a ≤ 300) : a < 50000 := dT (lin (C1 a) (S1 V0) (.num 50000) [(1, V0, (.num 300))] rfl (uL h0))
theorem op7 {a : Nat} (h0 : a = 9900) : (4 + 3 + 8 * 7) < a := dT (lin (C1 a) (S1 (.add (.add (.num 4) (.num 3)) (.num 56))) V0 [(1, (.num 9900), V0)] rfl (uE h0.symm))
theorem op8 {a b : Nat} (h0 : ((a : Nat) : Int) ≤ (2 * 6 + 1)) (h1 : b < a) : b < 13 := dT (lin (C2 a b) (S1 V1) (.num 13) [(1, V0, (S1 (.num 12))), (1, (S1 V1), V0)] rfl h0 (uT h1))
theorem op9 {a : Int} : ¬ ((a + 1) = a) := fun hg => linF (C1 a) [(1, (S1 V0), V0)] rfl (Int.le_of_eq hg)
theorem op10 {a b : Nat} (h0 : a < b) : a < b := dT (lin (C2 a b) (S1 V0) V1 [(1, (S1 V0), V1)] rfl (uT h0))
theorem op11 {a : Nat} (h0 : ((a : Nat) : Int) ≤ (2 * 6 + 1)) : (100 + a) ≤ 300 := dL (lin (C1 a) (.add (.num 100) V0) (.num 300) [(1, V0, (S1 (.num 12)))] rfl h0)
theorem op12 {a b c d e : Nat} (h0 : (a + b) < c) (h1 : (d + e) ≤ b) : (a + d + e) < c := dT (lin (C5 a b c d e) (S1 (.add (.add V0 V3) V4)) V2 [(1, (S1 (.add V0 V1)), V2), (1, (.add V3 V4), V1)] rfl (uT h0) (uL h1))
theorem op13 {a : Int} (h0 : (0 : Int) < a) (h1 : a < 1000) : (Int.natAbs a) < 1073741824 := nabs_lt (lin (C2 a ((Int.natAbs a) : Nat)) (S1 V0) (.num 1073741824) [(1, (S1 V0), (.num 1000))] rfl h1) (lin (C2 a ((Int.natAbs a) : Nat)) (S1 (.neg V0)) (.num 1073741824) [(1, (S1 (.num 0)), V0)] rfl h0)
theorem op14 {a : Int} (h0 : ((-1) : Int) ≤ a) : ((-1) : Int) ≤ (a + 1) := lin (C1 a) (.num (-1)) (S1 V0) [(1, (.num (-1)), V0)] rfl h0
theorem op15 {a b : Int} (h0 : (0 : Int) ≤ a) (h1 : (0 : Int) ≤ b) : (0 : Int) ≤ (a + 1 + b - 1) := lin (C2 a b) (.num 0) (.sub (.add (S1 V0) V1) (.num 1)) [(1, (.num 0), V0), (1, (.num 0), V1)] rfl h0 h1
theorem op16 {a b c d : Nat} (h0 : a < b) (h1 : b < c) (h2 : c < d) : ¬ (a = d) := fun hg => linF (C4 a b c d) [(1, (S1 V0), V1), (1, (S1 V1), V2), (1, (S1 V2), V3), (1, V3, V0)] rfl (uT h0) (uT h1) (uT h2) (uE hg.symm)
theorem op17 {a c : Nat} {b d e : Int} (h0 : ((a : Nat) : Int) ≤ (2 * b + 1)) (h1 : ((c : Nat) : Int) ≤ (2 * d + 1)) (h2 : (b + d) = (e - 1)) : ((a + c + 1 : Nat) : Int) ≤ (2 * e + 1) := lin (C5 a b c d e) (S1 (.add V0 V2)) (S1 (.mulL 2 V4)) [(1, V0, (S1 (.mulL 2 V1))), (1, V2, (S1 (.mulL 2 V3))), (2, (.add V1 V3), (.sub V4 (.num 1)))] rfl h0 h1 (Int.le_of_eq h2)
theorem op18 {a : Nat} : ((a : Nat) : Int) ≤ ((a : Nat) : Int) := lin (C1 a) V0 V0 [] rfl 
theorem op19 {a b : Nat} (h0 : a = (b + 1)) : ((b : Nat) : Int) < ((a : Nat) : Int) := lin (C2 a b) (S1 V1) V0 [(1, (S1 V1), V0)] rfl (uE h0.symm)
theorem op20 {a b : Nat} (h0 : a < b) : ¬ (a = b) := fun hg => linF (C2 a b) [(1, (S1 V0), V1), (1, V1, V0)] rfl (uT h0) (uE hg.symm)
theorem op21 {a : Nat} (h0 : ((a : Nat) : Int) ≤ (2 * 6 + 1)) : a ≤ 13 := dL (lin (C1 a) V0 (.num 13) [(1, V0, (S1 (.num 12)))] rfl h0)
theorem op22 {a : Int} (h0 : (0 : Int) < a) : ¬ (a = 0) := fun hg => linF (C1 a) [(1, (S1 (.num 0)), V0), (1, V0, (.num 0))] rfl h0 (Int.le_of_eq hg)
theorem op23 {a b c : Nat} (h0 : a < b) (h1 : b < c) : ¬ (a = c) := fun hg => linF (C3 a b c) [(1, (S1 V0), V1), (1, (S1 V1), V2), (1, V2, V0)] rfl (uT h0) (uT h1) (uE hg.symm)
theorem op24 {a b : Nat} (h0 : (a + 12) < b) : (a + 1 + 1 + 8) < b := dT (lin (C2 a b) (S1 (.add (S1 (S1 V0)) (.num 8))) V1 [(1, (S1 (.add V0 (.num 12))), V1)] rfl (uT h0))
theorem op25 {a : Nat} (h0 : a = 9900) : (4 + 3 + 8 * 1) < a := dT (lin (C1 a) (S1 (.add (.add (.num 4) (.num 3)) (.num 8))) V0 [(1, (.num 9900), V0)] rfl (uE h0.symm))
theorem op26 {a b c d e f : Nat} (h0 : a < b) (h1 : b < c) (h2 : c < d) (h3 : d < e) (h4 : e < f) : ¬ (a = f) := fun hg => linF (C6 a b c d e f) [(1, (S1 V0), V1), (1, (S1 V1), V2), (1, (S1 V2), V3), (1, (S1 V3), V4), (1, (S1 V4), V5), (1, V5, V0)] rfl (uT h0) (uT h1) (uT h2) (uT h3) (uT h4) (uE hg.symm)
theorem op27 {b : Nat} {a : Int} (h0 : (Int.toNat a) < b) : a < ((b : Nat) : Int) := lin (C3 a b ((Int.toNat a) : Nat)) (S1 V0) V1 [(1, (S1 V2), V1), (1, V0, V2)] rfl (uT h0) (Int.self_le_toNat a)
theorem op28 {a : Nat} (h0 : a = 9900) : (4 + 3) < a := dT (lin (C1 a) (S1 (.add (.num 4) (.num 3))) V0 [(1, (.num 9900), V0)] rfl (uE h0.symm))
theorem op29 {a : Nat} (h0 : ((a : Nat) : Int) ≤ (2 * 6 + 1)) : (100 + a) < 50000 := dT (lin (C1 a) (S1 (.add (.num 100) V0)) (.num 50000) [(1, V0, (S1 (.num 12)))] rfl h0)
theorem op30 {a : Nat} (h0 : a ≤ 90000) : a < 1000000 := dT (lin (C1 a) (S1 V0) (.num 1000000) [(1, V0, (.num 90000))] rfl (uL h0))
theorem op31 {a : Nat} (h0 : a = 9900) : (4 + 3 + 8 * 4) < a := dT (lin (C1 a) (S1 (.add (.add (.num 4) (.num 3)) (.num 32))) V0 [(1, (.num 9900), V0)] rfl (uE h0.symm))
theorem op32 {a b : Int} (h0 : a < 3) (h1 : (1 : Int) ≤ b) : (a - 1 - b) ≤ 2 ^ 66 := lin (C2 a b) (.sub (.sub V0 (.num 1)) V1) (.num 73786976294838206464) [(1, (S1 V0), (.num 3)), (1, (.num 1), V1)] rfl h0 h1
theorem op33 {a : Int} : (((a - 1) / 2) + (a / 2)) = (a - 1) := Int.le_antisymm (linK 2 (C3 a (((a - 1) / 2) : Int) ((a / 2) : Int)) (.add V1 V2) (.sub V0 (.num 1)) [(1, (.mulL 2 V1), (.sub V0 (.num 1))), (1, (.mulL 2 V2), V0)] rfl (Int.mul_ediv_self_le (by decide)) (Int.mul_ediv_self_le (by decide))) (linK 2 (C3 a (((a - 1) / 2) : Int) ((a / 2) : Int)) (.sub V0 (.num 1)) (.add V1 V2) [(1, (S1 (.sub V0 (.num 1))), (.add (.mulL 2 V1) (.num 2))), (1, (S1 V0), (.add (.mulL 2 V2) (.num 2)))] rfl (Int.lt_mul_ediv_self_add (by decide)) (Int.lt_mul_ediv_self_add (by decide)))
theorem op34 {a : Nat} (h0 : a = 9900) : (4 + 3 + 8 * 12) < a := dT (lin (C1 a) (S1 (.add (.add (.num 4) (.num 3)) (.num 96))) V0 [(1, (.num 9900), V0)] rfl (uE h0.symm))
theorem op35 {a b : Nat} (h0 : ((a : Nat) : Int) ≤ (2 * 6 + 1)) (h1 : b ≤ (0 + 3 * a)) : b < 80000 := dT (lin (C2 a b) (S1 V1) (.num 80000) [(3, V0, (S1 (.num 12))), (1, V1, (.add (.num 0) (.mulL 3 V0)))] rfl h0 (uL h1))
theorem op36 {a : Nat} {b : Int} (h0 : a ≤ 63) (h1 : ¬ (((a : Nat) : Int) ≤ (b + 1))) : (b + 1) < 2 ^ 63 := lin (C2 a b) (S1 (S1 V1)) (.num 9223372036854775808) [(1, V0, (.num 63)), (1, (S1 (S1 V1)), V0)] rfl (uL h0) (Int.not_le.mp h1)
theorem op37 {b : Nat} {a : Int} (h0 : a < ((b : Nat) : Int)) (h1 : (-a) < ((b : Nat) : Int)) : (Int.natAbs a) < b := nabs_lt (lin (C3 a b ((Int.natAbs a) : Nat)) (S1 V0) V1 [(1, (S1 V0), V1)] rfl h0) (lin (C3 a b ((Int.natAbs a) : Nat)) (S1 (.neg V0)) V1 [(1, (S1 (.neg V0)), V1)] rfl h1)
theorem op38 {a : Nat} (h0 : a ≤ 63) : a < 1000000 := dT (lin (C1 a) (S1 V0) (.num 1000000) [(1, V0, (.num 63))] rfl (uL h0))
theorem op39 {b c : Nat} {a : Int} (h0 : ¬ (((b : Nat) : Int) ≤ (a + 1))) (h1 : b = c) : (a + 1) < ((c : Nat) : Int) := lin (C3 a b c) (S1 (S1 V0)) V2 [(1, (S1 (S1 V0)), V1), (1, V1, V2)] rfl (Int.not_le.mp h0) (uE h1)
theorem op40 {a b : Nat} (h0 : (a + 8 * 6) < b) : (a + 1 + 3 + 8 * 2) < b := dT (lin (C2 a b) (S1 (.add (.add (S1 V0) (.num 3)) (.num 16))) V1 [(1, (S1 (.add V0 (.num 48))), V1)] rfl (uT h0))
theorem op41 {a b : Nat} (h0 : (a + 8 * 12) < b) : (a + 1 + 3 + 8 * 8) < b := dT (lin (C2 a b) (S1 (.add (.add (S1 V0) (.num 3)) (.num 64))) V1 [(1, (S1 (.add V0 (.num 96))), V1)] rfl (uT h0))
theorem op42 {a : Nat} (h0 : a = 9900) : (4 + 3 + 8 * 24) < a := dT (lin (C1 a) (S1 (.add (.add (.num 4) (.num 3)) (.num 192))) V0 [(1, (.num 9900), V0)] rfl (uE h0.symm))
theorem op43 {a : Nat} (h0 : a = 1) : a < 400 := dT (lin (C1 a) (S1 V0) (.num 400) [(1, V0, (.num 1))] rfl (uE h0))
theorem op44 {a : Nat} (h0 : a = 9900) : (4 + 3 + 8 * (6 + 4)) < a := dT (lin (C1 a) (S1 (.add (.add (.num 4) (.num 3)) (.mulL 8 (.add (.num 6) (.num 4))))) V0 [(1, (.num 9900), V0)] rfl (uE h0.symm))
theorem op45 {b : Nat} {a : Int} (h0 : a ≤ ((b : Nat) : Int)) (h1 : (-a) ≤ ((b : Nat) : Int)) : (Int.natAbs a) ≤ b := nabs_le (lin (C3 a b ((Int.natAbs a) : Nat)) V0 V1 [(1, V0, V1)] rfl h0) (lin (C3 a b ((Int.natAbs a) : Nat)) (.neg V0) V1 [(1, (.neg V0), V1)] rfl h1)
theorem op46 {a : Int} (h0 : a < 0) : ¬ ((-a) = 0) := fun hg => linF (C1 a) [(1, (S1 V0), (.num 0)), (1, (.neg V0), (.num 0))] rfl h0 (Int.le_of_eq hg)
theorem op47 {a : Int} (h0 : a < 60) : (6 + a) ≤ 66 := lin (C1 a) (.add (.num 6) V0) (.num 66) [(1, (S1 V0), (.num 60))] rfl h0
theorem op48 {a b c : Nat} (h0 : ((a : Nat) : Int) ≤ (2 * 6 + 1)) (h1 : b < 13) (h2 : c ≤ (3 * a + 10 * b + 5)) : c < 90000 := dT (lin (C3 a b c) (S1 V2) (.num 90000) [(3, V0, (S1 (.num 12))), (10, (S1 V1), (.num 13)), (1, V2, (.add (.add (.mulL 3 V0) (.mulL 10 V1)) (.num 5)))] rfl h0 (uT h1) (uL h2))
theorem op49 {a b : Nat} (h0 : 0 < a) (h1 : b = a) : ¬ (((b : Nat) : Int) = 0) := fun hg => linF (C2 a b) [(1, (S1 (.num 0)), V0), (1, V0, V1), (1, V1, (.num 0))] rfl (uT h0) (uE h1.symm) (Int.le_of_eq hg)
theorem op50 {a b : Nat} (h0 : b < a) : ¬ (a = b) := fun hg => linF (C2 a b) [(1, (S1 V1), V0), (1, V0, V1)] rfl (uT h0) (uE hg)
theorem op51 {a : Nat} (h0 : (a + 1) = (0 + 1 + 1 + 1 + 1 + 1 + 1 + 1 + 1 + 1 + 1 + 1 + 1 + 1 + 1 + 1 + 1 + 1 + 1 + 1 + 1 + 1 + 1 + 1 + 1 + 1 + 1 + 1 + 1 + 1 + 1 + 1 + 1)) : (a + 1) ≤ 16777216 := dL (lin (C1 a) (S1 V0) (.num 16777216) [(1, (S1 V0), (S1 (S1 (S1 (S1 (S1 (S1 (S1 (S1 (S1 (S1 (S1 (S1 (S1 (S1 (S1 (S1 (S1 (S1 (S1 (S1 (S1 (S1 (S1 (S1 (S1 (S1 (S1 (S1 (S1 (S1 (S1 (S1 (.num 0))))))))))))))))))))))))))))))))))] rfl (uE h0))
theorem op52 {a : Nat} {b : Int} (h0 : a < 13) (h1 : b < ((a : Nat) : Int)) : b < 2 ^ 63 := lin (C2 a b) (S1 V1) (.num 9223372036854775808) [(1, (S1 V0), (.num 13)), (1, (S1 V1), V0)] rfl (uT h0) h1
theorem op53 {a b : Nat} (h0 : a < b) : ¬ (b = a) := fun hg => linF (C2 a b) [(1, (S1 V0), V1), (1, V1, V0)] rfl (uT h0) (uE hg)
theorem op54 {a : Int} (h0 : ((-1) : Int) ≤ a) : (0 : Int) ≤ (a + 1) := lin (C1 a) (.num 0) (S1 V0) [(1, (.num (-1)), V0)] rfl h0
theorem op55 {a : Int} (h0 : (0 : Int) ≤ a) : ¬ (a < 0) := fun hg => linF (C1 a) [(1, (.num 0), V0), (1, (S1 V0), (.num 0))] rfl h0 hg
theorem op56 {a b : Int} (h0 : a < 3) (h1 : b ≤ 36893488147419103232) : (a - 1 + b) ≤ 2 ^ 66 := lin (C2 a b) (.add (.sub V0 (.num 1)) V1) (.num 73786976294838206464) [(1, (S1 V0), (.num 3)), (1, V1, (.num 36893488147419103232))] rfl h0 h1
theorem op57 {a b : Nat} (h0 : b = a) (h1 : a ≤ 90000) : b ≤ 90000 := dL (lin (C2 a b) V1 (.num 90000) [(1, V1, V0), (1, V0, (.num 90000))] rfl (uE h0) (uL h1))
theorem op58 {a b : Int} (h0 : (0 : Int) ≤ a) (h1 : (1 : Int) ≤ b) : ((-(2 ^ 66)) : Int) ≤ (a - 1 + b) := lin (C2 a b) (.num (-73786976294838206464)) (.add (.sub V0 (.num 1)) V1) [(1, (.num 0), V0), (1, (.num 1), V1)] rfl h0 h1
theorem op59 {a b c : Nat} (h0 : a < 90000) (h1 : b < 900) (h2 : c = (a + (b + 1))) : c < 1000000 := dT (lin (C3 a b c) (S1 V2) (.num 1000000) [(1, (S1 V0), (.num 90000)), (1, (S1 V1), (.num 900)), (1, V2, (.add V0 (S1 V1)))] rfl (uT h0) (uT h1) (uE h2))
theorem op60 {a : Nat} (h0 : a < 900) : (a + 1) < 1000 := dT (lin (C1 a) (S1 (S1 V0)) (.num 1000) [(1, (S1 V0), (.num 900))] rfl (uT h0))
theorem op61 {a b c : Nat} (h0 : a < b) (h1 : b < c) : ¬ (c = a) := fun hg => linF (C3 a b c) [(1, (S1 V0), V1), (1, (S1 V1), V2), (1, V2, V0)] rfl (uT h0) (uT h1) (uE hg)
theorem op62 {a : Nat} (h0 : ((a : Nat) : Int) ≤ (2 * 6 + 1)) : (0 + 3 * a) < 80000 := dT (lin (C1 a) (S1 (.add (.num 0) (.mulL 3 V0))) (.num 80000) [(3, V0, (S1 (.num 12)))] rfl h0)
theorem op63 {a b c : Nat} (h0 : ((a : Nat) : Int) ≤ (2 * 6 + 1)) (h1 : b ≤ (3 * a + 10 * c)) (h2 : c < 13) : b < 80000 := dT (lin (C3 a b c) (S1 V1) (.num 80000) [(3, V0, (S1 (.num 12))), (1, V1, (.add (.mulL 3 V0) (.mulL 10 V2))), (10, (S1 V2), (.num 13))] rfl h0 (uL h1) (uT h2))
theorem op64 {a b c : Nat} : (((a : Nat) : Int) + 1 + (((b + c + 1 : Nat) : Int) + ((b : Nat) : Int) * (-1)) - 1) = ((a + 1 + c : Nat) : Int) := Int.le_antisymm (lin (C3 a b c) (.sub (.add (S1 V0) (.add (S1 (.add V1 V2)) (.mulR V1 (-1)))) (.num 1)) (.add (S1 V0) V2) [] rfl ) (lin (C3 a b c) (.add (S1 V0) V2) (.sub (.add (S1 V0) (.add (S1 (.add V1 V2)) (.mulR V1 (-1)))) (.num 1)) [] rfl )
theorem op65 {a b c d e : Nat} (h0 : (a + 8 * b) < c) (h1 : (d + 8 * e) ≤ 8 * b) : (a + d + 8 * e) < c := dT (lin (C5 a b c d e) (S1 (.add (.add V0 V3) (.mulL 8 V4))) V2 [(1, (S1 (.add V0 (.mulL 8 V1))), V2), (1, (.add V3 (.mulL 8 V4)), (.mulL 8 V1))] rfl (uT h0) (uL h1))
theorem op66 {a : Nat} (h0 : ((a : Nat) : Int) ≤ (2 * 6 + 1)) : (100 + a + 2) ≤ 300 := dL (lin (C1 a) (.add (.add (.num 100) V0) (.num 2)) (.num 300) [(1, V0, (S1 (.num 12)))] rfl h0)
theorem op67 {a : Nat} (h0 : a = 9900) : (4 + 3 + 8 * 2) < a := dT (lin (C1 a) (S1 (.add (.add (.num 4) (.num 3)) (.num 16))) V0 [(1, (.num 9900), V0)] rfl (uE h0.symm))
theorem op68 {a b : Nat} (h0 : a ≤ b) (h1 : b ≤ a) : a = b := Nat.le_antisymm (dL (lin (C2 a b) V0 V1 [(1, V0, V1)] rfl (uL h0))) (dL (lin (C2 a b) V1 V0 [(1, V1, V0)] rfl (uL h1)))
theorem op69 {a b c : Nat} (h0 : ((a : Nat) : Int) ≤ (2 * 6 + 1)) (h1 : b < 13) (h2 : c ≤ (3 * a + 10 * b + 5)) : (c + (0 + 1)) < 80000 := dT (lin (C3 a b c) (S1 (.add V2 (S1 (.num 0)))) (.num 80000) [(3, V0, (S1 (.num 12))), (10, (S1 V1), (.num 13)), (1, V2, (.add (.add (.mulL 3 V0) (.mulL 10 V1)) (.num 5)))] rfl h0 (uT h1) (uL h2))
theorem op70 {a b : Nat} (h0 : a < 1000) (h1 : b = (a + 1)) : b < 1001 := dT (lin (C2 a b) (S1 V1) (.num 1001) [(1, (S1 V0), (.num 1000)), (1, V1, (S1 V0))] rfl (uT h0) (uE h1))
theorem op71 {a b c d : Nat} (h0 : ((a : Nat) : Int) ≤ (2 * 6 + 1)) (h1 : b ≤ (3 * a + 10 * c)) (h2 : c < 13) (h3 : d = 1) : (b + 3 * d) < 80000 := dT (lin (C4 a b c d) (S1 (.add V1 (.mulL 3 V3))) (.num 80000) [(3, V0, (S1 (.num 12))), (1, V1, (.add (.mulL 3 V0) (.mulL 10 V2))), (10, (S1 V2), (.num 13)), (3, V3, (.num 1))] rfl h0 (uL h1) (uT h2) (uE h3))
theorem op72 {a b c d e : Nat} (h0 : a ≤ (3 * b + 10 * c)) (h1 : d ≤ (a + 3 * e)) (h2 : e = 1) : d ≤ (3 * b + 10 * c + 5) := dL (lin (C5 a b c d e) V3 (.add (.add (.mulL 3 V1) (.mulL 10 V2)) (.num 5)) [(1, V0, (.add (.mulL 3 V1) (.mulL 10 V2))), (1, V3, (.add V0 (.mulL 3 V4))), (3, V4, (.num 1))] rfl (uL h0) (uL h1) (uE h2))
theorem op73 {a : Nat} (h0 : a = 9900) : (4 + 3 + 8) < a := dT (lin (C1 a) (S1 (.add (.add (.num 4) (.num 3)) (.num 8))) V0 [(1, (.num 9900), V0)] rfl (uE h0.symm))
theorem op74 {a b c : Nat} (h0 : a ≤ (3 * b + 10 * c + 5)) : (a + (0 + 1)) ≤ (3 * b + 10 * (c + 1)) := dL (lin (C3 a b c) (.add V0 (S1 (.num 0))) (.add (.mulL 3 V1) (.mulL 10 (S1 V2))) [(1, V0, (.add (.add (.mulL 3 V1) (.mulL 10 V2)) (.num 5)))] rfl (uL h0))
theorem op75 {a : Nat} (h0 : a = 9900) : (4 + 3 + 8 * 20) < a := dT (lin (C1 a) (S1 (.add (.add (.num 4) (.num 3)) (.num 160))) V0 [(1, (.num 9900), V0)] rfl (uE h0.symm))
theorem op76 {a b : Int} (h0 : (0 : Int) ≤ a) (h1 : b ≤ 36893488147419103232) : ((-(2 ^ 66)) : Int) ≤ (a - 1 - b) := lin (C2 a b) (.num (-73786976294838206464)) (.sub (.sub V0 (.num 1)) V1) [(1, (.num 0), V0), (1, V1, (.num 36893488147419103232))] rfl h0 h1
theorem op77 {a b c d : Nat} (h0 : a = b) (h1 : (c + (d + 1)) = b) : c < a := dT (lin (C4 a b c d) (S1 V2) V0 [(1, V1, V0), (1, (.add V2 (S1 V3)), V1), (1, (.num 0), V3)] rfl (uE h0.symm) (uE h1) (Int.natCast_nonneg d))
theorem op78 {a : Int} (h0 : a < 66) : a ≤ 1000000 := lin (C1 a) V0 (.num 1000000) [(1, (S1 V0), (.num 66))] rfl h0
theorem op79 {a b : Nat} (h0 : a = b) (h1 : b ≤ 90000) : a ≤ 100000 := dL (lin (C2 a b) V0 (.num 100000) [(1, V0, V1), (1, V1, (.num 90000))] rfl (uE h0) (uL h1))
theorem op80 {a b c d : Nat} (h0 : a ≤ (3 * b + 10 * c)) (h1 : d ≤ 2) : (a + (d + 1)) ≤ (3 * b + 10 * c + 5) := dL (lin (C4 a b c d) (.add V0 (S1 V3)) (.add (.add (.mulL 3 V1) (.mulL 10 V2)) (.num 5)) [(1, V0, (.add (.mulL 3 V1) (.mulL 10 V2))), (1, V3, (.num 2))] rfl (uL h0) (uL h1))
end Mine
namespace Mine
open PySem PySem.Calls PyProof.Rows PySem.Spec
section
variable {w : World} {f : Addr} {args : List Value} {D : Nat} {Ret : Value → Led → Prop} {Err : Addr → Led → Prop}
  {dp un : Nat} {gd : Option (List Code)} {cn : Str} {cs : Scope} {L a : Addr} {ccd : Value} {cl : List (Str × Addr)} {outer : List Env} {A₀ : Around} {base h₀ : Heap} {p : Program} {loose : List Str} {mean : ExcName → Option Value}
  {mg mb : Str → Option Value} {m : Str → Option Value} {s : Shared} {Q E : Value → Shared → Prop} {led P P2 P3 R R1 R2 : Led}
/-- a contract taken: one part -/
theorem go1 {T9 : (Value → Led → Prop) → Prop} (C : Tells w f args D (P ++ R) Ret Err) (B : Below A₀ base outer h₀) (F : Fr h₀ L s.heap m) (X : (mk.heap_1 w.params).In h₀) (N : News h₀ L s.heap led) (T : Top p loose mean mg mb h₀) (hk : cs.kind = .function) (d : Dm led) (r : Rot P led R)
    (hd : dp + D < recursionLimit) (hu : un + 8 * D < cLine)
    (e : ∀ K : Value → Led → Prop, T9 K → ∀ r led', Ret r led' → K r led') (ret : T9 fun r led' => ∀ h' tk', Fr h₀ L h' m → News h₀ L h' led' → Dm led' → Q r { s with heap := h', toks := tk' })
    (thr : ∀ e dx led' h' tk' g, Fr h₀ L g m → g.UpToSlots h' → Rz base (envX cn cs L a ccd cl :: outer) e dx led' h' → Dm led' → Err dx led' → E (.ref e) { s with heap := h', toks := tk' }) :
    wpAny (model PySem.Challenge.rw_sa0166_01.row.prog w) (ktrTop dp un gd cn cs L a ccd cl outer) (call (.ref f) args) Q E s :=
  C _ _ _ _ _ _ _ _ _ _ _ _ _ _ _ _ _ _ _ _ _ _ B F X (News.perm r.perm N) T hk (Dm.perm r.perm d) hd hu (fun r led' h' tk' F N D hR => e _ ret r led' hR h' tk' F N D) thr
theorem go1n {T9 : (Value → Led → Prop) → Prop} (C : Tells w f args D (P ++ R) Ret NoErr) (B : Below A₀ base outer h₀) (F : Fr h₀ L s.heap m) (X : (mk.heap_1 w.params).In h₀) (N : News h₀ L s.heap led) (T : Top p loose mean mg mb h₀) (hk : cs.kind = .function) (d : Dm led) (r : Rot P led R)
    (hd : dp + D < recursionLimit) (hu : un + 8 * D < cLine)
    (e : ∀ K : Value → Led → Prop, T9 K → ∀ r led', Ret r led' → K r led') (ret : T9 fun r led' => ∀ h' tk', Fr h₀ L h' m → News h₀ L h' led' → Dm led' → Q r { s with heap := h', toks := tk' }) :
    wpAny (model PySem.Challenge.rw_sa0166_01.row.prog w) (ktrTop dp un gd cn cs L a ccd cl outer) (call (.ref f) args) Q E s :=
  go1 C B F X N T hk d r hd hu e ret fun _ _ _ _ _ _ _ _ _ _ hE => hE.elim
theorem Rot.two (r1 : Rot P led R1) (r2 : Rot P2 R1 R) : led.Perm (P ++ (P2 ++ R)) := r1.perm.trans (List.Perm.append_left P r2.perm)
theorem Rot.three (r1 : Rot P led R1) (r2 : Rot P2 R1 R2) (r3 : Rot P3 R2 R) : led.Perm (P ++ (P2 ++ (P3 ++ R))) := r1.perm.trans (List.Perm.append_left P (Rot.two r2 r3))
theorem go2 {T9 : (Value → Led → Prop) → Prop} (C : Tells w f args D (P ++ (P2 ++ R)) Ret Err) (B : Below A₀ base outer h₀) (F : Fr h₀ L s.heap m) (X : (mk.heap_1 w.params).In h₀) (N : News h₀ L s.heap led) (T : Top p loose mean mg mb h₀) (hk : cs.kind = .function) (d : Dm led) (r1 : Rot P led R1) (r2 : Rot P2 R1 R)
    (hd : dp + D < recursionLimit) (hu : un + 8 * D < cLine)
    (e : ∀ K : Value → Led → Prop, T9 K → ∀ r led', Ret r led' → K r led') (ret : T9 fun r led' => ∀ h' tk', Fr h₀ L h' m → News h₀ L h' led' → Dm led' → Q r { s with heap := h', toks := tk' })
    (thr : ∀ e dx led' h' tk' g, Fr h₀ L g m → g.UpToSlots h' → Rz base (envX cn cs L a ccd cl :: outer) e dx led' h' → Dm led' → Err dx led' → E (.ref e) { s with heap := h', toks := tk' }) :
    wpAny (model PySem.Challenge.rw_sa0166_01.row.prog w) (ktrTop dp un gd cn cs L a ccd cl outer) (call (.ref f) args) Q E s :=
  C _ _ _ _ _ _ _ _ _ _ _ _ _ _ _ _ _ _ _ _ _ _ B F X (News.perm (Rot.two r1 r2) N) T hk (Dm.perm (Rot.two r1 r2) d) hd hu (fun r led' h' tk' F N D hR => e _ ret r led' hR h' tk' F N D) thr
theorem go2n {T9 : (Value → Led → Prop) → Prop} (C : Tells w f args D (P ++ (P2 ++ R)) Ret NoErr) (B : Below A₀ base outer h₀) (F : Fr h₀ L s.heap m) (X : (mk.heap_1 w.params).In h₀) (N : News h₀ L s.heap led) (T : Top p loose mean mg mb h₀) (hk : cs.kind = .function) (d : Dm led) (r1 : Rot P led R1) (r2 : Rot P2 R1 R)
    (hd : dp + D < recursionLimit) (hu : un + 8 * D < cLine)
    (e : ∀ K : Value → Led → Prop, T9 K → ∀ r led', Ret r led' → K r led') (ret : T9 fun r led' => ∀ h' tk', Fr h₀ L h' m → News h₀ L h' led' → Dm led' → Q r { s with heap := h', toks := tk' }) :
    wpAny (model PySem.Challenge.rw_sa0166_01.row.prog w) (ktrTop dp un gd cn cs L a ccd cl outer) (call (.ref f) args) Q E s :=
  go2 C B F X N T hk d r1 r2 hd hu e ret fun _ _ _ _ _ _ _ _ _ _ hE => hE.elim
theorem go3 {T9 : (Value → Led → Prop) → Prop} (C : Tells w f args D (P ++ (P2 ++ (P3 ++ R))) Ret Err) (B : Below A₀ base outer h₀) (F : Fr h₀ L s.heap m) (X : (mk.heap_1 w.params).In h₀) (N : News h₀ L s.heap led) (T : Top p loose mean mg mb h₀) (hk : cs.kind = .function) (d : Dm led) (r1 : Rot P led R1) (r2 : Rot P2 R1 R2) (r3 : Rot P3 R2 R)
    (hd : dp + D < recursionLimit) (hu : un + 8 * D < cLine)
    (e : ∀ K : Value → Led → Prop, T9 K → ∀ r led', Ret r led' → K r led') (ret : T9 fun r led' => ∀ h' tk', Fr h₀ L h' m → News h₀ L h' led' → Dm led' → Q r { s with heap := h', toks := tk' })
    (thr : ∀ e dx led' h' tk' g, Fr h₀ L g m → g.UpToSlots h' → Rz base (envX cn cs L a ccd cl :: outer) e dx led' h' → Dm led' → Err dx led' → E (.ref e) { s with heap := h', toks := tk' }) :
    wpAny (model PySem.Challenge.rw_sa0166_01.row.prog w) (ktrTop dp un gd cn cs L a ccd cl outer) (call (.ref f) args) Q E s :=
  C _ _ _ _ _ _ _ _ _ _ _ _ _ _ _ _ _ _ _ _ _ _ B F X (News.perm (Rot.three r1 r2 r3) N) T hk (Dm.perm (Rot.three r1 r2 r3) d) hd hu (fun r led' h' tk' F N D hR => e _ ret r led' hR h' tk' F N D) thr
theorem go3n {T9 : (Value → Led → Prop) → Prop} (C : Tells w f args D (P ++ (P2 ++ (P3 ++ R))) Ret NoErr) (B : Below A₀ base outer h₀) (F : Fr h₀ L s.heap m) (X : (mk.heap_1 w.params).In h₀) (N : News h₀ L s.heap led) (T : Top p loose mean mg mb h₀) (hk : cs.kind = .function) (d : Dm led) (r1 : Rot P led R1) (r2 : Rot P2 R1 R2) (r3 : Rot P3 R2 R)
    (hd : dp + D < recursionLimit) (hu : un + 8 * D < cLine)
    (e : ∀ K : Value → Led → Prop, T9 K → ∀ r led', Ret r led' → K r led') (ret : T9 fun r led' => ∀ h' tk', Fr h₀ L h' m → News h₀ L h' led' → Dm led' → Q r { s with heap := h', toks := tk' }) :
    wpAny (model PySem.Challenge.rw_sa0166_01.row.prog w) (ktrTop dp un gd cn cs L a ccd cl outer) (call (.ref f) args) Q E s :=
  go3 C B F X N T hk d r1 r2 r3 hd hu e ret fun _ _ _ _ _ _ _ _ _ _ hE => hE.elim
theorem go0 {T9 : (Value → Led → Prop) → Prop} (C : Tells w f args D led Ret Err) (B : Below A₀ base outer h₀) (F : Fr h₀ L s.heap m) (X : (mk.heap_1 w.params).In h₀) (N : News h₀ L s.heap led) (T : Top p loose mean mg mb h₀) (hk : cs.kind = .function) (d : Dm led)
    (hd : dp + D < recursionLimit) (hu : un + 8 * D < cLine)
    (e : ∀ K : Value → Led → Prop, T9 K → ∀ r led', Ret r led' → K r led') (ret : T9 fun r led' => ∀ h' tk', Fr h₀ L h' m → News h₀ L h' led' → Dm led' → Q r { s with heap := h', toks := tk' })
    (thr : ∀ e dx led' h' tk' g, Fr h₀ L g m → g.UpToSlots h' → Rz base (envX cn cs L a ccd cl :: outer) e dx led' h' → Dm led' → Err dx led' → E (.ref e) { s with heap := h', toks := tk' }) :
    wpAny (model PySem.Challenge.rw_sa0166_01.row.prog w) (ktrTop dp un gd cn cs L a ccd cl outer) (call (.ref f) args) Q E s :=
  C _ _ _ _ _ _ _ _ _ _ _ _ _ _ _ _ _ _ _ _ _ _ B F X N T hk d hd hu (fun r led' h' tk' F N D hR => e _ ret r led' hR h' tk' F N D) thr
theorem go0n {T9 : (Value → Led → Prop) → Prop} (C : Tells w f args D led Ret NoErr) (B : Below A₀ base outer h₀) (F : Fr h₀ L s.heap m) (X : (mk.heap_1 w.params).In h₀) (N : News h₀ L s.heap led) (T : Top p loose mean mg mb h₀) (hk : cs.kind = .function) (d : Dm led)
    (hd : dp + D < recursionLimit) (hu : un + 8 * D < cLine)
    (e : ∀ K : Value → Led → Prop, T9 K → ∀ r led', Ret r led' → K r led') (ret : T9 fun r led' => ∀ h' tk', Fr h₀ L h' m → News h₀ L h' led' → Dm led' → Q r { s with heap := h', toks := tk' }) :
    wpAny (model PySem.Challenge.rw_sa0166_01.row.prog w) (ktrTop dp un gd cn cs L a ccd cl outer) (call (.ref f) args) Q E s :=
  go0 C B F X N T hk d hd hu e ret fun _ _ _ _ _ _ _ _ _ _ hE => hE.elim
theorem perm_put {P' J R : Led} : (P' ++ (J ++ R)).Perm (R ++ (P' ++ J)) := by
  rw [← List.append_assoc]; exact List.perm_append_comm
theorem back1 {P' R : Led} : (P' ++ R).Perm (R ++ P') := List.perm_append_comm
theorem backJ1 {P' J R : Led} : (P' ++ (J ++ R)).Perm (R ++ (P' ++ J)) := perm_put
theorem back2 {P' S' R : Led} : (P' ++ (S' ++ R)).Perm (R ++ (P' ++ S')) := perm_put
theorem backJ2 {P' S' J R : Led} : (P' ++ (S' ++ (J ++ R))).Perm (R ++ (P' ++ (S' ++ J))) := by
  rw [← List.append_assoc, ← List.append_assoc, ← List.append_assoc P']
  rw [show P' ++ S' ++ J = (P' ++ S') ++ J from rfl]
  exact List.perm_append_comm
theorem backX3 {P' S' X J R : Led} : (P' ++ (S' ++ (X ++ (J ++ R)))).Perm (X ++ (R ++ (P' ++ (S' ++ J)))) := by
  have h : (P' ++ (S' ++ (X ++ (J ++ R)))).Perm (X ++ (P' ++ (S' ++ (J ++ R)))) := by
    rw [← List.append_assoc P', ← List.append_assoc, ← List.append_assoc P', ← List.append_assoc X]
    exact List.Perm.append_right _ List.perm_append_comm
  exact h.trans (List.Perm.append_left X backJ2)
theorem out1 {Ret : Value → Led → Prop} {r : Value} {h' : Heap} {tk' : Nat} (hret : ∀ r led' h' tk', Fr h₀ L h' m → News h₀ L h' led' → Dm led' → Ret r led' → Q r { s with heap := h', toks := tk' })
    (F : Fr h₀ L h' m) (N : News h₀ L h' led) (d : Dm led) (r1 : Rot P led R) (hR : Ret r (P ++ R)) : Q r { s with heap := h', toks := tk' } := hret _ _ _ _ F (News.perm r1.perm N) (Dm.perm r1.perm d) hR
theorem out2 {Ret : Value → Led → Prop} {r : Value} {h' : Heap} {tk' : Nat} (hret : ∀ r led' h' tk', Fr h₀ L h' m → News h₀ L h' led' → Dm led' → Ret r led' → Q r { s with heap := h', toks := tk' })
    (F : Fr h₀ L h' m) (N : News h₀ L h' led) (d : Dm led) (r1 : Rot P led R1) (r2 : Rot P2 R1 R) (hR : Ret r (P ++ (P2 ++ R))) : Q r { s with heap := h', toks := tk' } := hret _ _ _ _ F (News.perm (Rot.two r1 r2) N) (Dm.perm (Rot.two r1 r2) d) hR
theorem out3 {Ret : Value → Led → Prop} {r : Value} {h' : Heap} {tk' : Nat} (hret : ∀ r led' h' tk', Fr h₀ L h' m → News h₀ L h' led' → Dm led' → Ret r led' → Q r { s with heap := h', toks := tk' })
    (F : Fr h₀ L h' m) (N : News h₀ L h' led) (d : Dm led) (r1 : Rot P led R1) (r2 : Rot P2 R1 R2) (r3 : Rot P3 R2 R) (hR : Ret r (P ++ (P2 ++ (P3 ++ R)))) : Q r { s with heap := h', toks := tk' } := hret _ _ _ _ F (News.perm (Rot.three r1 r2 r3) N) (Dm.perm (Rot.three r1 r2 r3) d) hR
theorem len_led {prog : Program} {A : Around} {led : Led} {D : Addr} {its : Array Value} {n : Nat} {Q : Value → Shared → Prop} (N : News h₀ L s.heap led) (hm : (D, listOf its n) ∈ led) (hz : its.size < 1000000) (h : ∀ t, Q (.int its.size t) { s with toks := s.toks + 1 + 1 }) :
    wpAny (model prog w) A (call (.builtin "len") [.ref D]) Q E s :=
  len_list (PySem.IsL.isList (n := n) (N _ hm).1) (by (first | with_reducible exact om104 hz | omega)) (h _)
theorem app_led {prog : Program} {A : Around} {news news' : Led} {d : Addr} {vs : List Value} {v : Value} {n : Nat} {Q : Value → Shared → Prop} (F : Fr h₀ L s.heap m) (N : News h₀ L s.heap news) (U : Upd d (listOf vs.toArray n) (listOf (vs ++ [v]).toArray (n + 1)) news news')
    (h : ∀ h', Fr h₀ L h' m → News h₀ L h' news' → Q .none { s with heap := h' }) (hz : vs.length < 1000000) :
    wpAny (model prog w) A (call (.builtin "list.append") [.ref d, v]) Q E s := by
  rw [← List.push_toArray] at U
  exact append_K F N U h (by simp only [List.size_toArray]; rw [sizeLine_eq]; (first | with_reducible exact om106 hz | omega))
theorem item_led {prog : Program} {A : Around} {news : Led} {value slice : Expr} {l : Addr} {vs : List Value} {n : Nat} {k : Int} {u : Tok} {v : Value} {Q : Value → Shared → Prop}
    (N : News h₀ L s.heap news) (hm : (l, listOf vs.toArray n) ∈ news) (hx : vs[k.toNat]? = some v) (h0 : 0 ≤ k) (hhi : k < 2 ^ 63) (h : Q v s)
    (hs : subscripted slice false (.ref l) (.int k u) = operate [.ref l, .int k u] (getItem (.ref l) (.int k u))) :
    wpAny (model prog w) A (subscriptTail value slice (.ref l) (.int k u)) Q E s :=
  have hl : s.heap.IsList l vs.toArray := PySem.IsL.isList (n := n) (N _ hm).1
  tail_any hl.typeIs slot_list_getitem.lookup (wpAny_getItem_list hl h0 hhi (by simpa using hx) h) hs
theorem seq_at {k : Int} {n : Nat} (h0 : 0 ≤ k) (h : k.toNat < n) : seqIndex? k n = some k.toNat := by
  have e : (if k < 0 then k + (n : Int) else k) = k := if_neg (Int.not_lt.mpr h0)
  show (if (decide (0 ≤ (if k < 0 then k + (n : Int) else k)) && decide ((if k < 0 then k + (n : Int) else k) < (n : Int))) = true then some (if k < 0 then k + (n : Int) else k).toNat else none) = _
  rw [e, decide_eq_true h0, decide_eq_true (show k < (n : Int) from (Int.toNat_lt h0).mp h)]; rfl
theorem item_tup {prog : Program} {A : Around} {news : Led} {value slice : Expr} {l : Addr} {vs : List Value} {n : Nat} {k : Int} {u : Tok} {v : Value} {Q : Value → Shared → Prop}
    (N : News h₀ L s.heap news) (hm : (l, ({ cls := .type "tuple", data := .seq vs.toArray n } : Obj)) ∈ news) (hx : vs[k.toNat]? = some v) (h0 : 0 ≤ k) (hhi : k < 2 ^ 63) (h : Q v s)
    (hs : subscripted slice false (.ref l) (.int k u) = operate [.ref l, .int k u] (getItem (.ref l) (.int k u))) :
    wpAny (model prog w) A (subscriptTail value slice (.ref l) (.int k u)) Q E s := by
  have hk : k.toNat < vs.length := (List.getElem?_eq_some_iff.mp hx).1
  exact item_tupleT (N.isTup hm) (by (first | with_reducible exact om107 h0 | omega)) hhi (j := k.toNat) (seq_at h0 hk) (by simpa using hx) h hs
theorem item_last {prog : Program} {A : Around} {news : Led} {value slice : Expr} {l : Addr} {vs : List Value} {n : Nat} {u : Tok} {v : Value} {Q : Value → Shared → Prop}
    (N : News h₀ L s.heap news) (hm : (l, listOf (vs ++ [v]).toArray n) ∈ news) (h : Q v s)
    (hs : subscripted slice false (.ref l) (.int (-1) u) = operate [.ref l, .int (-1) u] (getItem (.ref l) (.int (-1) u))) :
    wpAny (model prog w) A (subscriptTail value slice (.ref l) (.int (-1) u)) Q E s :=
  have hl : s.heap.IsList l (vs ++ [v]).toArray := PySem.IsL.isList (n := n) (N _ hm).1
  tail_any hl.typeIs slot_list_getitem.lookup (wpAny_getItem_list_neg hl (by decide) (by simp; (first | with_reducible exact om101 | with_reducible exact om103 | omega)) (by decide) (by
    simp only [List.size_toArray, List.length_append, List.length_cons, List.length_nil]
    rw [show ((-1 : Int) + ((vs.length + (0 + 1) : Nat) : Int)).toNat = vs.length by (first | with_reducible exact om101 | with_reducible exact om103 | omega)]
    simp) h) hs
theorem item_menu {prog : Program} {A : Around} {news : Led} {value slice : Expr} {l : Addr} {vs : List Value} {n : Nat} {k : Int} {u : Tok} {Q : Value → Shared → Prop} (ws : List Str)
    (N : News h₀ L s.heap news) (hm : (l, listOf vs.toArray n) ∈ news) (hw : ∀ v ∈ vs, ∃ x t, v = .str x t ∧ x ∈ ws) (h0 : 0 ≤ k) (hhi : k < (vs.length : Int)) (hz : vs.length < 1000) (h : ∀ x t, x ∈ ws → Q (.str x t) s)
    (hs : subscripted slice false (.ref l) (.int k u) = operate [.ref l, .int k u] (getItem (.ref l) (.int k u))) :
    wpAny (model prog w) A (subscriptTail value slice (.ref l) (.int k u)) Q E s := by
  have hk : k.toNat < vs.length := by (first | with_reducible exact om102 hhi hz | with_reducible exact om105 h0 hhi | omega)
  obtain ⟨x, t, e, hx⟩ := hw _ (List.getElem_mem hk)
  exact item_led N hm (List.getElem?_eq_getElem hk) h0 (by (first | with_reducible exact om102 hhi hz | with_reducible exact om105 h0 hhi | omega)) (by rw [e]; exact h x t hx) hs
end
/-- the locals at a function's entry as a variable, with what is known of it -/
theorem genM0 {h₀ h : Heap} {L : Addr} {l : List (Str × Value)}  {P : Prop} (F : Fr h₀ L h fun y => List.lookup y l) (e : l = [])  (k : ∀ m9 : Str → Option Value, Fr h₀ L h m9 → P) : P := by
  subst e; exact k _ F
theorem genM1 {h₀ h : Heap} {L : Addr} {l : List (Str × Value)} {a9 : Str} {va : Value} {P : Prop} (F : Fr h₀ L h fun y => List.lookup y l) (e : l = [(a9, va)]) (ha : List.lookup a9 [(a9, va)] = some va) (k : ∀ m9 : Str → Option Value, Fr h₀ L h m9 → m9 a9 = some va → P) : P := by
  subst e; exact k _ F ha
theorem genM2 {h₀ h : Heap} {L : Addr} {l : List (Str × Value)} {a9 : Str} {va : Value} {b9 : Str} {vb : Value} {P : Prop} (F : Fr h₀ L h fun y => List.lookup y l) (e : l = [(a9, va), (b9, vb)]) (ha : List.lookup a9 [(a9, va), (b9, vb)] = some va) (hb : List.lookup b9 [(a9, va), (b9, vb)] = some vb) (k : ∀ m9 : Str → Option Value, Fr h₀ L h m9 → m9 a9 = some va → m9 b9 = some vb → P) : P := by
  subst e; exact k _ F ha hb
theorem genM3 {h₀ h : Heap} {L : Addr} {l : List (Str × Value)} {a9 : Str} {va : Value} {b9 : Str} {vb : Value} {c9 : Str} {vc : Value} {P : Prop} (F : Fr h₀ L h fun y => List.lookup y l) (e : l = [(a9, va), (b9, vb), (c9, vc)]) (ha : List.lookup a9 [(a9, va), (b9, vb), (c9, vc)] = some va) (hb : List.lookup b9 [(a9, va), (b9, vb), (c9, vc)] = some vb) (hc : List.lookup c9 [(a9, va), (b9, vb), (c9, vc)] = some vc) (k : ∀ m9 : Str → Option Value, Fr h₀ L h m9 → m9 a9 = some va → m9 b9 = some vb → m9 c9 = some vc → P) : P := by
  subst e; exact k _ F ha hb hc
theorem genM4 {h₀ h : Heap} {L : Addr} {l : List (Str × Value)} {a9 : Str} {va : Value} {b9 : Str} {vb : Value} {c9 : Str} {vc : Value} {d9 : Str} {vd : Value} {P : Prop} (F : Fr h₀ L h fun y => List.lookup y l) (e : l = [(a9, va), (b9, vb), (c9, vc), (d9, vd)]) (ha : List.lookup a9 [(a9, va), (b9, vb), (c9, vc), (d9, vd)] = some va) (hb : List.lookup b9 [(a9, va), (b9, vb), (c9, vc), (d9, vd)] = some vb) (hc : List.lookup c9 [(a9, va), (b9, vb), (c9, vc), (d9, vd)] = some vc) (hd : List.lookup d9 [(a9, va), (b9, vb), (c9, vc), (d9, vd)] = some vd) (k : ∀ m9 : Str → Option Value, Fr h₀ L h m9 → m9 a9 = some va → m9 b9 = some vb → m9 c9 = some vc → m9 d9 = some vd → P) : P := by
  subst e; exact k _ F ha hb hc hd
theorem genM5 {h₀ h : Heap} {L : Addr} {l : List (Str × Value)} {a9 : Str} {va : Value} {b9 : Str} {vb : Value} {c9 : Str} {vc : Value} {d9 : Str} {vd : Value} {e9 : Str} {ve : Value} {P : Prop} (F : Fr h₀ L h fun y => List.lookup y l) (e : l = [(a9, va), (b9, vb), (c9, vc), (d9, vd), (e9, ve)]) (ha : List.lookup a9 [(a9, va), (b9, vb), (c9, vc), (d9, vd), (e9, ve)] = some va) (hb : List.lookup b9 [(a9, va), (b9, vb), (c9, vc), (d9, vd), (e9, ve)] = some vb) (hc : List.lookup c9 [(a9, va), (b9, vb), (c9, vc), (d9, vd), (e9, ve)] = some vc) (hd : List.lookup d9 [(a9, va), (b9, vb), (c9, vc), (d9, vd), (e9, ve)] = some vd) (he : List.lookup e9 [(a9, va), (b9, vb), (c9, vc), (d9, vd), (e9, ve)] = some ve) (k : ∀ m9 : Str → Option Value, Fr h₀ L h m9 → m9 a9 = some va → m9 b9 = some vb → m9 c9 = some vc → m9 d9 = some vd → m9 e9 = some ve → P) : P := by
  subst e; exact k _ F ha hb hc hd he
theorem genM6 {h₀ h : Heap} {L : Addr} {l : List (Str × Value)} {a9 : Str} {va : Value} {b9 : Str} {vb : Value} {c9 : Str} {vc : Value} {d9 : Str} {vd : Value} {e9 : Str} {ve : Value} {f9 : Str} {vf : Value} {P : Prop} (F : Fr h₀ L h fun y => List.lookup y l) (e : l = [(a9, va), (b9, vb), (c9, vc), (d9, vd), (e9, ve), (f9, vf)]) (ha : List.lookup a9 [(a9, va), (b9, vb), (c9, vc), (d9, vd), (e9, ve), (f9, vf)] = some va) (hb : List.lookup b9 [(a9, va), (b9, vb), (c9, vc), (d9, vd), (e9, ve), (f9, vf)] = some vb) (hc : List.lookup c9 [(a9, va), (b9, vb), (c9, vc), (d9, vd), (e9, ve), (f9, vf)] = some vc) (hd : List.lookup d9 [(a9, va), (b9, vb), (c9, vc), (d9, vd), (e9, ve), (f9, vf)] = some vd) (he : List.lookup e9 [(a9, va), (b9, vb), (c9, vc), (d9, vd), (e9, ve), (f9, vf)] = some ve) (hf : List.lookup f9 [(a9, va), (b9, vb), (c9, vc), (d9, vd), (e9, ve), (f9, vf)] = some vf) (k : ∀ m9 : Str → Option Value, Fr h₀ L h m9 → m9 a9 = some va → m9 b9 = some vb → m9 c9 = some vc → m9 d9 = some vd → m9 e9 = some ve → m9 f9 = some vf → P) : P := by
  subst e; exact k _ F ha hb hc hd he hf
theorem genT {M : Model} {A : Around} {α : Type} {u : Sem α} {Q : α → Shared → Prop} {E : Value → Shared → Prop} {h : Heap} {g : _} {d : _} {t : Nat} {o : _} (k : ∀ tk : Nat, wpAny M A u Q E (Shared.mk h g d tk o)) : wpAny M A u Q E (Shared.mk h g d t o) := k t
theorem ltI {a b : Nat} {i : Int} (e : a = b) (h : i < (b : Int)) : i < (a : Int) := e ▸ h
theorem roomZ {dp D : Nat} (h : dp + D < recursionLimit) : dp < recursionLimit := Nat.lt_of_le_of_lt (Nat.le_add_right _ _) h
theorem roomY {dp D : Nat} (h : dp + D < recursionLimit) (k : Nat) (e : Nat.ble k D = true) : dp + k < recursionLimit := Nat.lt_of_le_of_lt (Nat.add_le_add_left (Nat.le_of_ble_eq_true e) dp) h
theorem lenZ {a b c N : Nat} (e : a = b) (h : b < c) (hc : c ≤ N) : a < N := Nat.lt_of_lt_of_le (e ▸ h) hc
theorem unitsW {un D : Nat} (h : un + 8 * D < cLine) (k : Nat) (e : Nat.ble k (8 * D) = true) : un + k < cLine := Nat.lt_of_le_of_lt (Nat.add_le_add_left (Nat.le_of_ble_eq_true e) un) h
/-- a statement's continuation as a variable: what is nested within the statement does not repeat it -/
def Kon (K : Flow → Shared → Prop) : Flow → Shared → Prop := K
def KonS (M : Model) (A : Around) (E : Value → Shared → Prop) (rest : List Stmt) (env : Env) (Q K : Flow → Shared → Prop) : Prop :=
  ∀ f s', (match f with | .next => wpAny M A (execs rest env) Q E s' | f => Q f s') → K f s'
section
variable {M : Model} {A : Around} {E : Value → Shared → Prop} {s : Shared} {st : Stmt} {rest : List Stmt} {env : Env} {Q K : Flow → Shared → Prop} {v : Value}
theorem exK (h : ∀ K : Flow → Shared → Prop, KonS M A E rest env Q K → wpAny M A (exec st env) (Kon K) E s) : wpAny M A (execs (st :: rest) env) Q E s := wpAny_execs_cons (h _ fun _ _ h => h)
theorem Kon.next (hK : KonS M A E rest env Q K) (h : wpAny M A (execs rest env) Q E s) : Kon K .next s := hK .next s h
theorem Kon.ret (hK : KonS M A E rest env Q K) (h : Q (.ret v) s) : Kon K (.ret v) s := hK (.ret v) s h
theorem Kon.brk (hK : KonS M A E rest env Q K) (h : Q .brk s) : Kon K .brk s := hK .brk s h
theorem Kon.cont (hK : KonS M A E rest env Q K) (h : Q .cont s) : Kon K .cont s := hK .cont s h
end
end Mine
open Mine
theorem Mine.wd1 : True := by
  (k_with "rot" => with_reducible first | exact Rot.here | exact Rot.one' | exact Rot.whole | exact Rot.last | exact Rot.nil' | (refine' Rot.cons' ?rrW1; case rrW1 => walk_at "rot") | (refine' Rot.skip ?rrW1; case rrW1 => walk_at "rot") | (refine' Rot.app ?rrW1; case rrW1 => walk_at "rot"))
  (k_with "inc" => with_reducible first | exact Inc.rfl | exact Inc.left | exact Inc.nil | (refine' Inc.skip ?rrW2; case rrW2 => walk_at "inc") | (refine' Inc.app ?rrW2; case rrW2 => walk_at "inc") | (refine' Inc.cons ?raW2 ?rrW2; (case raW2 => k_mem); case rrW2 => walk_at "inc") | (refine' Inc.both ?_ ?_; walk_at "inc"; walk_at "inc"))
  trivial
local macro_rules | `(tactic| k_mem) => `(tactic| k_extra "mine k_mem")
theorem Mine.wd3 : True := by
  (k_with "mine k_mem" => (refine' List.mem_append_right _ ?_; k_mem))
  (k_with "mine k_mem" => (refine' List.mem_append_left _ ?_; ktr_member))
  (k_with "mine k_mem" => ((with_reducible show @Membership.mem (Addr × Obj) (List (Addr × Obj)) _ _ _); ktr_member))
  (k_with "mine k_mem" => ((show @Membership.mem (Addr × Obj) (List (Addr × Obj)) _ (_ ++ _) _); ktr_member))
  trivial
local macro_rules | `(tactic| k_all) => `(tactic| k_extra "mine k_all")
theorem Mine.wd7 : True := by
  (k_with "mine k_all" => (refine' off ?NW7 ?dW7 ?bW7 ?cW7; (case NW7 => k_asm); (case dW7 => walk_at "dmx"); (case bW7 => walk_at "beh"); (case cW7 => first | exact ncl | exact ncd | exact nci)))
  (k_with "mine k_all" => with_reducible assumption)
  (k_with "W call ref" => k_extra "mine call")
  (k_with "W call builtin:len" => (k_here; (with_reducible show wpAny _ _ (call (Value.builtin "len") [Value.ref _]) _ _ _); k_dflt (refine' len_led ?k1W10 ?k2W10 ?k3W10 ?_; (case k1W10 => k_asm); (case k2W10 => k_mem); (case k3W10 => (simp only [List.size_toArray, List.length_append, List.length_cons, List.length_nil]; walk_at "ar")); k_whole); (try simp only [List.size_toArray]); intro _))
  (k_with "suf" => with_reducible first | exact Suf.rfl | (refine' Suf.skip ?rrW11; case rrW11 => walk_at "suf") | (refine' Suf.app ?rrW11; case rrW11 => walk_at "suf"))
  (k_with "beh" => with_reducible first | (refine' Beh.here ?rrW12; case rrW12 => walk_at "suf") | (refine' Beh.skip ?rrW12; case rrW12 => walk_at "beh") | (refine' Beh.app ?rrW12; case rrW12 => walk_at "beh"))
  (k_with "W call builtin:list.append" => (k_here; (with_reducible show wpAny _ _ (call (Value.builtin _) [Value.ref _, _]) _ _ _); k_dflt (refine' app_led ?k1W13 ?k2W13 ?k3W13 ?_ ?zW13; (case k1W13 => k_asm); (case k2W13 => k_asm); (case k3W13 => k_upd); (case zW13 => first | assumption | exact Mine.lenZ (by assumption) (by assumption) (by decide) | exact Nat.lt_of_lt_of_le (by assumption) (by decide) | walk_at "ar" | (simp only [List.length_append, List.length_cons, List.length_nil]; walk_at "ar")); k_whole); intro hZ9 FZ9 NZ9; (try k_sweep)))
  (k_with "W subscriptTail" => (k_here; (with_reducible show wpAny _ _ (subscriptTail _ _ (Value.ref _) (Value.int _ _)) _ _ _); (with_unfolding_all first
  | (refine' item_led ?NW14 ?hW14 ?xW14 ?loW14 ?hiW14 ?_ ?sW14; (case NW14 => k_asm); (case hW14 => k_mem); (case xW14 => with_reducible assumption); (case loW14 => first | assumption | decide | walk_at "ar"); (case hiW14 => first | assumption | decide | walk_at "ar"); (case sW14 => with_unfolding_all rfl); k_whole)
  | (refine' item_tup ?NW14 ?hW14 ?xW14 ?loW14 ?hiW14 ?_ ?sW14; (case NW14 => k_asm); (case hW14 => k_mem); (case xW14 => first | with_reducible assumption | rfl); (case loW14 => first | assumption | decide | walk_at "ar"); (case hiW14 => first | assumption | decide | walk_at "ar"); (case sW14 => with_unfolding_all rfl); k_whole))))
  trivial
local macro_rules | `(tactic| k_lt $h:ident) => `(tactic| (revert $h; k_extra "mine k_ltW"))
theorem Mine.wd15 : True := by
  (k_with "mine k_ltW" => (intro lt9; ((try k_dflt (have dm1Z9 := Dm.newN (by assumption) lt9 (by assumption) (by rfl))); have hRawZ9 := lt9; replace lt9 := allLt_of lt9; (try simp only [AllLt, and_true] at lt9))))
  (k_with "mine k_ltW" => (intro lt9; ((with_reducible rename NoLt => nolt9Z9); clear lt9)))
  (k_with "mine k_all" => exact ne_raw (by assumption) (by walk_at "suf"))
  (k_with "going" => ((case B => k_asm); (case F => k_asm); (case X => k_asm); (case N => k_asm); (case T => k_asm); (case hk => first | exact rfl | assumption); (case d => walk_at "dmx"); (case hd => ktr_room); (case hu => ktr_units)))
  (k_with "never" => exact fun _ _ _ _ _ _ _ _ _ _ hE => hE.elim)
  trivial
local macro_rules | `(tactic| ktr_units) => `(tactic| k_extra "mine ktr_units")
theorem Mine.wd20 : True := by
  (k_with "mine ktr_units" => ((simp only [uK, units_in1, units_deeper, Around.mark_units] at *); (try dsimp only [ktrTop] at *); have hcL9Z9 := cLine_is; omega))
  (k_with "W subscriptTail Name UnaryOp" => (k_here; (with_reducible show wpAny _ _ (subscriptTail _ _ (Value.ref _) (Value.int _ _)) _ _ _); k_dflt (refine' Mine.item_last ?NW21 ?hW21 ?_ ?sW21; (case NW21 => k_asm); (case hW21 => k_mem); (case sW21 => with_unfolding_all rfl); k_whole)))
  (k_with "loc" => (try ((with_reducible rename Fr _ _ _ (fun y => ListZ9.lookup y _) => FM8); (first | (refine' Mine.genM2 FM8 (by rfl) (by rfl) (by rfl) (fun m9 FM9 ea eb => ?_); (try dsimp only at ea eb)) | (refine' Mine.genM1 FM8 (by rfl) (by rfl) (fun m9 FM9 ea => ?_); (try dsimp only at ea)) | (refine' Mine.genM3 FM8 (by rfl) (by rfl) (by rfl) (by rfl) (fun m9 FM9 ea eb ec => ?_); (try dsimp only at ea eb ec)) | (refine' Mine.genM4 FM8 (by rfl) (by rfl) (by rfl) (by rfl) (by rfl) (fun m9 FM9 ea eb ec ed => ?_); (try dsimp only at ea eb ec ed)) | (refine' Mine.genM5 FM8 (by rfl) (by rfl) (by rfl) (by rfl) (by rfl) (by rfl) (fun m9 FM9 ea eb ec ed ee => ?_); (try dsimp only at ea eb ec ed ee)) | (refine' Mine.genM0 FM8 (by rfl) (fun m9 FM9 => ?_)) | (refine' Mine.genM6 FM8 (by rfl) (by rfl) (by rfl) (by rfl) (by rfl) (by rfl) (by rfl) (fun m9 FM9 ea eb ec ed ee ef => ?_); (try dsimp only at ea eb ec ed ee ef))); clear FM8)))
  (k_with "W execs cons" => (k_here; first | k_gentoks | (refine' Mine.exK ?_; intro K7 hK7; (try dsimp only))))
  (k_with "W Kon" => ((try dsimp only); first | (refine' Mine.Kon.next (by assumption) ?_) | (refine' Mine.Kon.ret (by assumption) ?_) | (refine' Mine.Kon.brk (by assumption) ?_) | (refine' Mine.Kon.cont (by assumption) ?_)))
  trivial
local macro_rules | `(tactic| ktr_room) => `(tactic| k_extra "mine ktr_room")
theorem Mine.wd25 : True := by
  (k_with "mine ktr_room" => first | exact Mine.roomZ (by assumption) | ((rename _ + _ < recursionLimit => hd9Z9); first | exact Mine.roomY hd9Z9 1 rfl | exact Mine.roomY hd9Z9 2 rfl | exact Mine.roomY hd9Z9 3 rfl | exact Mine.roomY hd9Z9 4 rfl))
  (k_with "mine ktr_units" => ((rename _ + 8 * _ < cLine => hu9Z9); first | exact Mine.unitsW hu9Z9 3 rfl | exact Mine.unitsW hu9Z9 4 rfl | exact Mine.unitsW hu9Z9 0 rfl | exact Mine.unitsW hu9Z9 5 rfl | exact Mine.unitsW hu9Z9 6 rfl | exact Mine.unitsW hu9Z9 7 rfl | exact Mine.unitsW hu9Z9 8 rfl | exact Mine.unitsW hu9Z9 9 rfl | exact Mine.unitsW hu9Z9 10 rfl | exact Mine.unitsW hu9Z9 11 rfl | exact Mine.unitsW hu9Z9 12 rfl))
  (k_with "ar" => first | with_reducible assumption | decide | with_reducible exact Nat.lt_of_lt_of_le (by assumption) (by decide) | with_reducible exact Nat.le_of_lt (by assumption) | with_reducible exact Int.le_of_lt (by assumption) | with_reducible exact Int.natCast_nonneg _ | with_reducible exact Mine.lenZ (by assumption) (by assumption) (by decide) | with_reducible exact Mine.ltI (by assumption) (by assumption) | with_reducible exact Nat.le_trans (by assumption) (by decide) | with_reducible exact Int.lt_of_lt_of_le (by assumption) (by decide) | k_extra "ar2" | omega)
  (k_with "ke" => first | rfl | (with_reducible refine' Mine.ke_skip ?krW28; case krW28 => walk_at "ke") | (with_reducible refine' Mine.ke_app ?krW28; case krW28 => walk_at "ke") | (refine' Mine.ke_upd (by with_unfolding_all rfl) ?krW28; case krW28 => walk_at "ke") | (simp only [List.map_append, List.map_cons]; rfl))
  (k_with "dmx" => first | with_reducible assumption | exact Mine.Dm.same2 (by assumption) (by walk_at "ke") | walk_at "dm")
  (k_with "hdx" => first | exact Mine.roomA (by assumption) rfl | ktr_room)
  (k_with "hux" => first | exact Mine.unitsA (by assumption) rfl | ktr_units)
  (k_with "W spliced" => (k_dflt (first | refine args_cons ?_ | refine args_nil ⟨Fr.keep (by assumption) _ _ (by assumption), ?_⟩ | (refine args_nil ?_; try simp only [List.cons_append, List.nil_append]))))
  (k_with "W eval Name" => (k_here; k_dflt (first | (name_kind "local"; refine' ld ?k1W33 ?k2W33 ?_; (case k1W33 => k_asm); (case k2W33 => assumption); k_whole) | (refine' nameX_L ?FW33 ?vW33 ?_ ?aW33 ?bW33; (case FW33 => k_asm); (case aW33 => rfl); (case bW33 => rfl); (case vW33 => rfl); k_whole) | (refine' nameX_K ?FW33 ?XW33 ?TW33 ?eW33 ?_ ?aW33 ?bW33; (case FW33 => k_asm); (case XW33 => k_asm); (case TW33 => k_asm); (case aW33 => rfl); (case bW33 => rfl); (case eW33 => k_is); k_whole))))
  (k_with "W isTrue Compare" => with_reducible refine wpAny_isTrue_Compare1 ?_)
  (k_with "W callWith ref" => (k_here; k_dflt (refine' callWith_K ?k1W35 ?k2W35 ?_; (case k1W35 => k_asm); (case k2W35 => k_is); k_whole)))
  (k_with "W getMethod ref" => (k_here; k_dflt (refine' method_inst ?k1W36 ?k2W36 ?k3W36 ?k4W36 ?k5W36 ?k6W36 ?k7W36 ?_; (case k1W36 => k_asm); (case k2W36 => k_asm); (case k3W36 => k_inst); (case k4W36 => k_is); (case k5W36 => k_is); (case k6W36 => k_is); (case k7W36 => k_get); k_whole)))
  (k_with "W exec Assign" => with_reducible refine wpAny_Assign_Name ?_)
  (k_with "W eval Call Name" => with_reducible refine Call_ ?_)
  (k_with "W eval Call Attribute" => with_reducible refine MethodCall_ ?_)
  (k_with "st9" => (repeat' (first | walk1 | (k_unfold; (try dsimp only)) | (dsimp only; walk1) | (leave1; (try dsimp only)) | fail "no step")))
  trivial
namespace Mine
open PySem PySem.Calls PyProof.Rows PySem.Spec
theorem IncMem {l l' : Led} {p : Addr × Obj} (h : p ∈ l) (i : Inc l l') : p ∈ l' := i.mem p h
noncomputable abbrev tupO (vs : List Value) (n : Nat) : Obj := { cls := .type "tuple", data := .seq vs.toArray n }
section
variable {prog : Program} {w : World} {A : Around} {E : Value → Shared → Prop} {s : Shared} {h₀ : Heap} {L d a : Addr} {m : Str → Option Value} {news : Led} {g : Obj → Led} {o : Obj} {x : Str} {t : Tok} {kvs : List (Str × Value)} {v dflt : Value}
theorem dictAt {K : Type} [DecidableEq K] {knd : KeyKind prog w K} {kvs : List (K × Value)} (N : News h₀ L s.heap news) (hm : (d, o) ∈ news) (hd : o.IsDictOf knd kvs) : s.heap.DictOf knd d kvs := Heap.dictOf_iff.mpr ⟨o, (N _ hm).1, hd⟩
theorem getM_dict {K : Type} [DecidableEq K] {knd : KeyKind prog w K} {kvs : List (K × Value)} {pl : Sem Bool} {Q : Value × List Value → Shared → Prop} (N : News h₀ L s.heap news) (hm : (d, o) ∈ news) (hd : o.IsDictOf knd kvs) (h : Q (.builtin "dict.get", [.ref d]) s) :
    wpAny (model prog w) A (getMethod (.ref d) "get" pl) Q E s := by
  have D := dictAt N hm hd
  exact getMethod_builtin D.typeIs PySem.F.plainAttrs_dict PySem.F.slot_dict_get PySem.F.type_dict_get D.mapOf.noDict h
theorem dget_str {Q : Value → Shared → Prop} (N : News h₀ L s.heap news) (hm : (d, o) ∈ news) (lo : (d == sysModules) = false) (hd : o.IsDictOf (strKind prog w) kvs) (h : Q ((valueAt kvs x).getD dflt) { s with toks := s.toks + 1 }) :
    wpAny (model prog w) A (call (.builtin "dict.get") [.ref d, .str x t, dflt]) Q E s := by
  have D := dictAt N hm hd
  exact call_meetsIn PySem.F.slot_dict_get D.typeIs PySem.F.entry_dict_get (PySem.F.args_dict_get_3 _ _ _) (meets_dict_get_default (strKind prog w) d (strKind_is prog w x t) lo dflt) ⟨_, D.mapOf, h⟩
theorem dget_strS {Q : Value → Shared → Prop} (N : News h₀ L s.heap news) (hm : (d, o) ∈ news) (lo : (d == sysModules) = false) (hd : o.IsDictOf (strKind prog w) kvs) (hv : valueAt kvs x = some v) (h : Q v { s with toks := s.toks + 1 }) :
    wpAny (model prog w) A (call (.builtin "dict.get") [.ref d, .str x t, dflt]) Q E s := dget_str N hm lo hd (by rw [hv]; exact h)
theorem dget_strN {Q : Value → Shared → Prop} (N : News h₀ L s.heap news) (hm : (d, o) ∈ news) (lo : (d == sysModules) = false) (hd : o.IsDictOf (strKind prog w) kvs) (hv : valueAt kvs x = none) (h : Q dflt { s with toks := s.toks + 1 }) :
    wpAny (model prog w) A (call (.builtin "dict.get") [.ref d, .str x t, dflt]) Q E s := dget_str N hm lo hd (by rw [hv]; exact h)
theorem kd_dict {K : Type} [DecidableEq K] {knd : KeyKind prog w K} {kvs : List (K × Value)} (hd : o.IsDictOf knd kvs) : kd o = o.cls := by
  obtain ⟨es, ep, _, hdat, _⟩ := hd
  unfold kd; rw [hdat]
theorem nil_dict {K : Type} [DecidableEq K] {knd : KeyKind prog w K} (hd : o.IsDictOf knd []) : ∃ n, o = dictOf [] n := by
  obtain ⟨es, ep, ⟨c1, c2, c3⟩, hdat, _, hp, _⟩ := hd
  obtain ⟨oc, od, oda, osl⟩ := o
  dsimp only at c1 c2 c3 hdat
  subst c1 c2 c3 hdat
  have : es = #[] := by
    obtain ⟨l⟩ := es
    cases hp
    rfl
  subst this
  exact ⟨ep, rfl⟩
theorem news_set {h' : Heap} {o' : Obj} (N : News h₀ L s.heap news) (U : UpdF d o news g) (hs : Heap.SameBut d s.heap h') (ho : h'.get? d = some o') : News h₀ L h' (g o') := by
  obtain ⟨pre, post, rfl, hg, a, b⟩ := U.split
  rw [hg]
  have hd := N (d, o) (List.mem_append.mpr (.inr (.head _)))
  intro p hp
  rcases List.mem_append.mp hp with hp | hp
  · have hN := N p (List.mem_append_left _ hp)
    exact ⟨(hs.2 p.1 (a p hp)).trans hN.1, hN.2⟩
  · rcases List.mem_cons.mp hp with e | hp
    · rw [e]; exact ⟨ho, hd.2⟩
    · have hN := N p (List.mem_append_right _ (.tail _ hp))
      exact ⟨(hs.2 p.1 (b p hp)).trans hN.1, hN.2⟩
theorem upd_in (U : UpdF d o news g) : (d, o) ∈ news := by
  obtain ⟨pre, post, rfl, _⟩ := U.split
  exact List.mem_append.mpr (.inr (.head _))
theorem dset_of {K : Type} [DecidableEq K] {knd : KeyKind prog w K} {kvs : List (K × Value)} {k : K} {key : Value} {Q : Unit → Shared → Prop} (hkey : knd.is k key = true) (F : Fr h₀ L s.heap m) (N : News h₀ L s.heap news) (U : UpdF d o news g) (hd : o.IsDictOf knd kvs) (hz : kvs.length ≤ 100000)
    (h : ∀ h' o', Fr h₀ L h' m → News h₀ L h' (g o') → o'.IsDictOf knd (stored kvs k v) → o'.cls = .type "dict" → Q () { s with heap := h', toks := s.toks + 1 }) :
    wpAny (model prog w) A (setItem (.ref d) key v) Q E s := by
  have D := dictAt N (upd_in U) hd
  have hn := (N _ (upd_in U)).2
  refine wpAny_setItem_pairs hkey D (fun h' D' hs => ?_) (Nat.le_trans hz (by rw [sizeLine_eq]; decide))
  obtain ⟨o', ho', hd'⟩ := Heap.dictOf_iff.mp D'
  obtain ⟨es, ep, hc, _⟩ := id hd'
  exact h h' o' (F.change hs hn.1 hn.2) (news_set N U hs ho') hd' hc.1
/-- the entries of a dict whose keys are pairs of ints -/
noncomputable abbrev pairKind (prog : Program) (w : World) : HeapKind prog w (List Int) := tupleKind (intKind prog w)
noncomputable abbrev esP (prog : Program) (w : World) (xs : List (List Int × Addr × Value)) : List DictEntry := xs.map (entryOfKey (pairKind prog w))
variable {xs : List (List Int × Addr × Value)} {n : Nat} {ks : List Int}
theorem pairKey {i j : Int} {t1 t2 : Tok} (N : News h₀ L s.heap news) (hm : (a, tupO [.int i t1, .int j t2] n) ∈ news) : (pairKind prog w).is s.heap [i, j] a :=
  ⟨_, _, _, (N _ hm).1, rfl, rfl, .cons (intKind_is prog w i t1) (.cons (intKind_is prog w j t2) .nil)⟩
def KeysIn (xs : List (List Int × Addr × Value)) (l : Led) : Prop := ∀ x ∈ xs, ∃ i j t1 t2 n, x.1 = [i, j] ∧ (x.2.1, tupO [.int i t1, .int j t2] n) ∈ l
theorem KeysIn.mono {l l' : Led} (h : KeysIn xs l) (hs : ∀ p ∈ l, p ∈ l') : KeysIn xs l' := fun x hx => by
  obtain ⟨i, j, t1, t2, n, e, hm⟩ := h x hx
  exact ⟨i, j, t1, t2, n, e, hs _ hm⟩
theorem dictAtH (N : News h₀ L s.heap news) (hm : (d, dictOf (esP prog w xs) n) ∈ news) (hk : KeysIn xs news) (hn : (xs.map (·.1)).Nodup) : s.heap.DictOfH (pairKind prog w) d xs :=
  ⟨_, _, _, (N _ hm).1, ⟨rfl, rfl, rfl⟩, rfl, by simp, fun x hx => by
    obtain ⟨i, j, t1, t2, n, e, hm⟩ := hk x hx
    rw [e]; exact pairKey N hm, hn⟩
theorem getM_dictH {pl : Sem Bool} {Q : Value × List Value → Shared → Prop} (N : News h₀ L s.heap news) (hm : (d, dictOf (esP prog w xs) n) ∈ news) (h : Q (.builtin "dict.get", [.ref d]) s) :
    wpAny (model prog w) A (getMethod (.ref d) "get" pl) Q E s :=
  getMethod_builtin ⟨_, (N _ hm).1, rfl⟩ PySem.F.plainAttrs_dict PySem.F.slot_dict_get PySem.F.type_dict_get (fun b e => by injection e with e; subst e; exact ⟨_, (N _ hm).1, rfl⟩) h
theorem dget_pair {i j : Int} {t1 t2 : Tok} {k : Nat} {Q : Value → Shared → Prop} (hu : A.units + 1 < cLine) (N : News h₀ L s.heap news) (hm : (d, dictOf (esP prog w xs) n) ∈ news) (lo : (d == sysModules) = false) (hk : KeysIn xs news) (hn : (xs.map (·.1)).Nodup)
    (ha : (a, tupO [.int i t1, .int j t2] k) ∈ news) (h : Q (((atKey xs [i, j]).map (·.2)).getD dflt) { s with toks := s.toks + 3 }) :
    wpAny (model prog w) A (call (.builtin "dict.get") [.ref d, .ref a, dflt]) Q E s := by
  have D := dictAtH N hm hk hn
  exact call_meetsIn PySem.F.slot_dict_get D.typeIs PySem.F.entry_dict_get (PySem.F.args_dict_get_3 _ _ _) (meetsH_dict_get_default (pairKind prog w) d a lo dflt) ⟨tupleKind_room_in1 hu, [i, j], xs, pairKey N ha, D, h⟩
theorem dget_pairS {i j : Int} {t1 t2 : Tok} {k : Nat} {p : Addr × Value} {Q : Value → Shared → Prop} (hu : A.units + 1 < cLine) (N : News h₀ L s.heap news) (hm : (d, dictOf (esP prog w xs) n) ∈ news) (lo : (d == sysModules) = false) (hk : KeysIn xs news) (hn : (xs.map (·.1)).Nodup)
    (ha : (a, tupO [.int i t1, .int j t2] k) ∈ news) (hv : atKey xs [i, j] = some p) (h : Q p.2 { s with toks := s.toks + 3 }) :
    wpAny (model prog w) A (call (.builtin "dict.get") [.ref d, .ref a, dflt]) Q E s := dget_pair hu N hm lo hk hn ha (by rw [hv]; exact h)
theorem dget_pairN {i j : Int} {t1 t2 : Tok} {k : Nat} {Q : Value → Shared → Prop} (hu : A.units + 1 < cLine) (N : News h₀ L s.heap news) (hm : (d, dictOf (esP prog w xs) n) ∈ news) (lo : (d == sysModules) = false) (hk : KeysIn xs news) (hn : (xs.map (·.1)).Nodup)
    (ha : (a, tupO [.int i t1, .int j t2] k) ∈ news) (hv : atKey xs [i, j] = none) (h : Q dflt { s with toks := s.toks + 3 }) :
    wpAny (model prog w) A (call (.builtin "dict.get") [.ref d, .ref a, dflt]) Q E s := dget_pair hu N hm lo hk hn ha (by rw [hv]; exact h)
theorem dset_pair {i j : Int} {t1 t2 : Tok} {k : Nat} {Q : Unit → Shared → Prop} (hu : A.units + 1 < cLine) (F : Fr h₀ L s.heap m) (N : News h₀ L s.heap news) (U : UpdF d (dictOf (esP prog w xs) n) news g) (hk : KeysIn xs news) (hn : (xs.map (·.1)).Nodup)
    (ha : (a, tupO [.int i t1, .int j t2] k) ∈ news) (hnew : atKey xs [i, j] = none) (hz : xs.length ≤ 100000)
    (h : ∀ h' n', Fr h₀ L h' m → News h₀ L h' (g (dictOf (esP prog w (xs ++ [([i, j], a, v)])) n')) → Q () { s with heap := h', toks := s.toks + 3 }) :
    wpAny (model prog w) A (setItem (.ref d) (.ref a) v) Q E s := by
  have D := dictAtH N (upd_in U) hk hn
  have hN := (N _ (upd_in U)).2
  refine wpAny_setItem_heap (tupleKind_room_in1 hu) (pairKey N ha) D (fun h' D' hs => ?_) (Nat.le_trans hz (by rw [sizeLine_eq]; decide))
  rw [storedH_new hnew] at D'
  obtain ⟨o', es, ep, ho', ⟨c1, c2, c3⟩, hdat, hes, _, _⟩ := D'
  obtain ⟨oc, od, oda, osl⟩ := o'
  dsimp only at c1 c2 c3 hdat
  subst c1 c2 c3 hdat
  have he : es = (esP prog w (xs ++ [([i, j], a, v)])).toArray := by
    show es = (xs ++ [([i, j], a, v)] |>.map (entryOfKey (pairKind prog w))).toArray
    rw [← hes, Array.toArray_toList]
  subst he
  exact h h' ep (F.change hs hN.1 hN.2) (news_set N U hs ho')
end
end Mine
open Mine
theorem Mine.wd41 : True := by
  (k_with "W getMethod ref" => (k_here; (with_reducible show wpAny _ _ (getMethod _ (PySem.Str.ofString "get") _) _ _ _); k_dflt (first | (refine' getM_dict ?NW41 ?hW41 ?dW41 ?_; (case NW41 => k_asm); (case hW41 => k_mem); (case dW41 => assumption); k_whole) | (refine' getM_dictH ?NW41 ?hW41 ?_; (case NW41 => k_asm); (case hW41 => k_mem); k_whole))))
  (k_with "W call builtin:dict.get" => (k_here; k_dflt (first
  | (refine' dget_strS ?NW42 ?hW42 ?loW42 ?dW42 ?vW42 ?_; (case NW42 => k_asm); (case hW42 => k_mem); (case loW42 => assumption); (case dW42 => assumption); (case vW42 => assumption); k_whole)
  | (refine' dget_strN ?NW42 ?hW42 ?loW42 ?dW42 ?vW42 ?_; (case NW42 => k_asm); (case hW42 => k_mem); (case loW42 => assumption); (case dW42 => assumption); (case vW42 => assumption); k_whole)
  | (refine' dget_pairS ?uW42 ?NW42 ?hW42 ?loW42 ?kW42 ?nW42 ?aW42 ?vW42 ?_; (case uW42 => ktr_units); (case NW42 => k_asm); (case hW42 => k_mem); (case loW42 => assumption); (case kW42 => walk_at "keys"); (case nW42 => assumption); (case aW42 => k_mem); (case vW42 => assumption); k_whole)
  | (refine' dget_pairN ?uW42 ?NW42 ?hW42 ?loW42 ?kW42 ?nW42 ?aW42 ?vW42 ?_; (case uW42 => ktr_units); (case NW42 => k_asm); (case hW42 => k_mem); (case loW42 => assumption); (case kW42 => walk_at "keys"); (case nW42 => assumption); (case aW42 => k_mem); (case vW42 => assumption); k_whole))))
  (k_with "keys" => (refine' KeysIn.mono ?hkW43 (Inc.mem ?hiW43); (case hkW43 => assumption); (case hiW43 => walk_at "inc")))
  (k_with "W setItem ref str" => (k_here; k_dflt (refine' dset_of (strKind_is _ _ _ _) ?FW44 ?NW44 ?UW44 ?dW44 ?zW44 ?_; (case FW44 => k_asm); (case NW44 => k_asm); (case UW44 => k_updF); (case dW44 => assumption); (case zW44 => first | assumption | walk_at "ar"); k_whole); intro hZ9 oZ9 FZ9 NZ9 hdZ9 hcZ9; (try dsimp only at NZ9); (try k_sweep)))
  (k_with "W setItem ref ref" => (k_here; k_dflt (refine' dset_pair ?uW45 ?FW45 ?NW45 ?UW45 ?kW45 ?nW45 ?aW45 ?vW45 ?zW45 ?_; (case uW45 => ktr_units); (case FW45 => k_asm); (case NW45 => k_asm); (case UW45 => k_updF); (case kW45 => walk_at "keys"); (case nW45 => assumption); (case aW45 => k_mem); (case vW45 => assumption); (case zW45 => first | assumption | walk_at "ar"); k_whole); intro hZ9 nZ9 FZ9 NZ9; (try dsimp only at NZ9); (try k_sweep)))
  trivial
namespace Mine
open PySem PySem.Calls PyProof.Rows PySem.Spec
/-- the symbol tables: the atoms' texts, the functors (name, arity) -/
structure Sy where
  texts : List Str
  funs : List (Int × Int)
noncomputable def Sy.atom (σ : Sy) (x : Str) : Sy := if x ∈ σ.texts then σ else ⟨σ.texts ++ [x], σ.funs⟩
noncomputable def Sy.functor (σ : Sy) (f : Int × Int) : Sy := if f ∈ σ.funs then σ else ⟨σ.texts, σ.funs ++ [f]⟩
noncomputable def Sy.anum (σ : Sy) (x : Str) : Int := (σ.texts.idxOf x : Int)
noncomputable def Sy.fnum (σ : Sy) (f : Int × Int) : Int := (σ.funs.idxOf f : Int)
noncomputable def Sy.func (σ : Sy) (x : Str) (k : Int) : Sy := (σ.atom x).functor (σ.anum x, k)
noncomputable def Sy.funcN (σ : Sy) (x : Str) (k : Int) : Int := (σ.atom x).fnum (σ.anum x, k)
/-- the first functor is the dot's, of two parts -/
def Sy.Dot (σ : Sy) : Prop := σ.funs[0]? = some (σ.anum (Str.ofString "."), 2) ∧ Str.ofString "." ∈ σ.texts
def Sy.Small (σ : Sy) (n : Nat) : Prop := σ.texts.length ≤ n ∧ σ.funs.length ≤ n
noncomputable abbrev PG : Program := PySem.Challenge.rw_sa0166_01.row.prog
inductive AtomD (w : World) (σ : Sy) (ao : Obj) : Prop
  | mk : ∀ (kvs : List (Str × Value)), ao.IsDictOf (strKind PySem.Challenge.rw_sa0166_01.row.prog w) kvs → kvs.map (·.1) = σ.texts → ((∀ (i : Nat) (kv : Str × Value), kvs[i]? = some kv → ∃ t, kv.2 = .int (i : Int) t)) → AtomD w σ ao
def TextsV (tvs : List Value) (l : List Str) : Prop := tvs.length = l.length ∧ ∀ (i : Nat) (x : Str), l[i]? = some x → ∃ t, tvs[i]? = some (.str x t)
def FunD (σ : Sy) (xs : List (List Int × Addr × Value)) (fas : List Addr) (KT : Led) : Prop :=
  xs.map (·.1) = σ.funs.map (fun f => [f.1, f.2]) ∧ xs.map (·.2.1) = fas ∧ (∀ (i : Nat) (x : List Int × Addr × Value), xs[i]? = some x → ∃ t, x.2.2 = .int (i : Int) t) ∧ KeysIn xs KT
inductive SymAt (w : World) (sy : Addr) (σ : Sy) (S : Led) : Prop
  | mk : ∀ (dsy : Addr), ∀ (tx : Addr), ∀ (an : Addr), ∀ (fn : Addr), ∀ (fnn : Addr), ∀ (h1 : Int), ∀ (h2 : Int), ∀ (h3 : Int), ∀ (h4 : Int), ∀ (k1 : Tok), ∀ (k2 : Tok), ∀ (k3 : Tok), ∀ (k4 : Tok), ∀ (tvs : List Value), ∀ (n1 : Nat), ∀ (ao : Obj), ∀ (fas : List Addr), ∀ (n2 : Nat), ∀ (xs : List (List Int × Addr × Value)), ∀ (n3 : Nat), ∀ (KT : Led), S = (sy, instObj 154 dsy) :: (dsy, dictOf [⟨h1, .str "texts" k1, .ref tx⟩, ⟨h2, .str "atom_numbers" k2, .ref an⟩, ⟨h3, .str "functors" k3, .ref fn⟩, ⟨h4, .str "functor_numbers" k4, .ref fnn⟩] 4) ::       (tx, listOf tvs.toArray n1) :: (an, ao) :: (fn, listOf (fas.map Value.ref).toArray n2) :: (fnn, dictOf (esP PySem.Challenge.rw_sa0166_01.row.prog w xs) n3) :: KT → ((@LT.lt Nat _ dsy sy ∧ @LT.lt Nat _ sy tx ∧ @LT.lt Nat _ tx an ∧ @LT.lt Nat _ an fn ∧ @LT.lt Nat _ fn fnn)) → (an == sysModules) = false → (fnn == sysModules) = false → TextsV tvs σ.texts → AtomD w σ ao → FunD σ xs fas KT → ao.cls = .type "dict" → TupL KT → σ.texts.Nodup → σ.funs.Nodup → SymAt w sy σ S
theorem sym_inst {w : World} {sy : Addr} {σ : Sy} {S : Led} {G : Prop} (hS : SymAt w sy σ S) (k : ∀ (dsy tx an fn fnn : Addr) (h1 h2 h3 h4 : Int) (k1 k2 k3 k4 : Tok), (sy, instObj 154 dsy) ∈ S →
    (dsy, dictOf [⟨h1, .str "texts" k1, .ref tx⟩, ⟨h2, .str "atom_numbers" k2, .ref an⟩, ⟨h3, .str "functors" k3, .ref fn⟩, ⟨h4, .str "functor_numbers" k4, .ref fnn⟩] 4) ∈ S → G) : G := by
  obtain ⟨dsy, tx, an, fn, fnn, h1, h2, h3, h4, k1, k2, k3, k4, tvs, n1, ao, fas, n2, xs, n3, KT, rfl, _⟩ := hS
  exact k dsy tx an fn fnn h1 h2 h3 h4 k1 k2 k3 k4 (.head _) (.tail _ (.head _))
theorem sym_text {w : World} {sy : Addr} {σ : Sy} {S : Led} {G : Prop} (hS : SymAt w sy σ S) (k : ∀ (dsy tx an fn fnn : Addr) (h1 h2 h3 h4 : Int) (k1 k2 k3 k4 : Tok) (tvs : List Value) (n1 : Nat), (sy, instObj 154 dsy) ∈ S → (dsy, dictOf [⟨h1, .str "texts" k1, .ref tx⟩, ⟨h2, .str "atom_numbers" k2, .ref an⟩, ⟨h3, .str "functors" k3, .ref fn⟩, ⟨h4, .str "functor_numbers" k4, .ref fnn⟩] 4) ∈ S → (tx, listOf tvs.toArray n1) ∈ S → TextsV tvs σ.texts → G) : G := by
  obtain ⟨dsy, tx, an, fn, fnn, h1, h2, h3, h4, k1, k2, k3, k4, tvs, n1, ao, fas, n2, xs, n3, KT, rfl, _, _, _, hT, _, hF, _⟩ := hS
  exact k dsy tx an fn fnn h1 h2 h3 h4 k1 k2 k3 k4 tvs n1 (.head _) (.tail _ (.head _)) (.tail _ (.tail _ (.head _))) hT
theorem sym_fun {w : World} {sy : Addr} {σ : Sy} {S : Led} {G : Prop} (hS : SymAt w sy σ S) (k : ∀ (dsy tx an fn fnn : Addr) (h1 h2 h3 h4 : Int) (k1 k2 k3 k4 : Tok) (fas : List Addr) (n2 : Nat) (xs : List (List Int × Addr × Value)) (KT : Led), (sy, instObj 154 dsy) ∈ S → (dsy, dictOf [⟨h1, .str "texts" k1, .ref tx⟩, ⟨h2, .str "atom_numbers" k2, .ref an⟩, ⟨h3, .str "functors" k3, .ref fn⟩, ⟨h4, .str "functor_numbers" k4, .ref fnn⟩] 4) ∈ S → (fn, listOf (fas.map Value.ref).toArray n2) ∈ S → FunD σ xs fas KT → (∀ p ∈ KT, p ∈ S) → G) : G := by
  obtain ⟨dsy, tx, an, fn, fnn, h1, h2, h3, h4, k1, k2, k3, k4, tvs, n1, ao, fas, n2, xs, n3, KT, rfl, _, _, _, hT, _, hF, _⟩ := hS
  exact k dsy tx an fn fnn h1 h2 h3 h4 k1 k2 k3 k4 fas n2 xs KT (.head _) (.tail _ (.head _)) (.tail _ (.tail _ (.tail _ (.tail _ (.head _))))) hF (fun _ h => .tail _ (.tail _ (.tail _ (.tail _ (.tail _ (.tail _ h))))))
theorem sym_open {w : World} {sy : Addr} {σ : Sy} {S : Led} {G : Prop} (hS : SymAt w sy σ S) (k : ∀ (dsy tx an fn fnn : Addr) (h1 h2 h3 h4 : Int) (k1 k2 k3 k4 : Tok) (tvs : List Value) (n1 : Nat) (ao : Obj) (fas : List Addr) (n2 : Nat) (xs : List (List Int × Addr × Value)) (n3 : Nat) (KT : Led),
    S = (sy, instObj 154 dsy) :: (dsy, dictOf [⟨h1, .str "texts" k1, .ref tx⟩, ⟨h2, .str "atom_numbers" k2, .ref an⟩, ⟨h3, .str "functors" k3, .ref fn⟩, ⟨h4, .str "functor_numbers" k4, .ref fnn⟩] 4) ::
      (tx, listOf tvs.toArray n1) :: (an, ao) :: (fn, listOf (fas.map Value.ref).toArray n2) :: (fnn, dictOf (esP PySem.Challenge.rw_sa0166_01.row.prog w xs) n3) :: KT →
    @LT.lt Nat _ dsy sy → @LT.lt Nat _ sy tx → @LT.lt Nat _ tx an → @LT.lt Nat _ an fn → @LT.lt Nat _ fn fnn → (an == sysModules) = false → (fnn == sysModules) = false →
    TextsV tvs σ.texts → (∀ kvs : List (Str × Value), ao.IsDictOf (strKind PySem.Challenge.rw_sa0166_01.row.prog w) kvs → kvs.map (·.1) = σ.texts → (∀ (i : Nat) (kv : Str × Value), kvs[i]? = some kv → ∃ t, kv.2 = .int (i : Int) t) → FunD σ xs fas KT → ao.cls = .type "dict" → TupL KT → σ.texts.Nodup → σ.funs.Nodup → G)) : G := by
  obtain ⟨dsy, tx, an, fn, fnn, h1, h2, h3, h4, k1, k2, k3, k4, tvs, n1, ao, fas, n2, xs, n3, KT, e, ⟨l1, l2, l3, l4, l5⟩, lo1, lo2, hT, ⟨kvs, hd2, he, hi⟩, hF, hcls, hKT, hnT, hnF⟩ := hS
  exact k dsy tx an fn fnn h1 h2 h3 h4 k1 k2 k3 k4 tvs n1 ao fas n2 xs n3 KT e l1 l2 l3 l4 l5 lo1 lo2 hT kvs hd2 he hi hF hcls hKT hnT hnF
/-! the tables' own laws -/
theorem valueAt_none {σ : Sy} {kvs : List (Str × Value)} {x : Str} (e : kvs.map (·.1) = σ.texts) (h : x ∉ σ.texts) : valueAt kvs x = none := by
  unfold valueAt
  rw [List.find?_eq_none.mpr]
  · rfl
  · intro kv hk
    simp only [decide_eq_true_eq]
    intro e'
    exact h (by rw [← e, ← e']; exact List.mem_map.mpr ⟨kv, hk, rfl⟩)
theorem valueAt_some {σ : Sy} {kvs : List (Str × Value)} {x : Str} (e : kvs.map (·.1) = σ.texts) (hn : σ.texts.Nodup) (hi : ∀ (i : Nat) (kv : Str × Value), kvs[i]? = some kv → ∃ t, kv.2 = .int (i : Int) t) (h : x ∈ σ.texts) : ∃ t, valueAt kvs x = some (.int (σ.anum x) t) := by
  have hl : σ.texts.idxOf x < σ.texts.length := List.idxOf_lt_length_of_mem h
  have hl' : σ.texts.idxOf x < kvs.length := by rw [← e, List.length_map] at hl; rwa [← e]
  have hx : (kvs[σ.texts.idxOf x]'hl').1 = x := by
    have h2 : σ.texts[σ.texts.idxOf x]'hl = x := List.getElem_idxOf hl
    have h3 : (kvs.map (·.1))[σ.texts.idxOf x]'(by rw [List.length_map]; exact hl') = x := by simp only [e]; exact h2
    rwa [List.getElem_map] at h3
  obtain ⟨t, ht⟩ := hi _ _ (List.getElem?_eq_getElem hl')
  refine ⟨t, ?_⟩
  have hm : kvs[σ.texts.idxOf x]'hl' ∈ kvs := List.getElem_mem _
  have hnd : (kvs.map (·.1)).Nodup := e ▸ hn
  have hf : kvs.find? (fun kv => decide (kv.1 = x)) = some (kvs[σ.texts.idxOf x]'hl') := by
    rw [List.find?_eq_some_iff_getElem]
    refine ⟨by simpa using hx, _, hl', rfl, fun j hj => ?_⟩
    simp only [Bool.not_eq_true', decide_eq_false_iff_not]
    intro hjx
    have hj' : j < kvs.length := Nat.lt_trans hj hl'
    have a : (kvs.map (·.1))[j]? = (kvs.map (·.1))[σ.texts.idxOf x]? := by rw [List.getElem?_map, List.getElem?_map, List.getElem?_eq_getElem hj', List.getElem?_eq_getElem hl', Option.map_some, Option.map_some, hjx, hx]
    exact absurd ((List.getElem?_inj (by rw [List.length_map]; exact hj') hnd).mp a) (Nat.ne_of_lt hj)
  unfold valueAt
  rw [hf, Option.map_some, ht]; rfl
theorem mem_atom {σ : Sy} {x : Str} : x ∈ (σ.atom x).texts := by
  unfold Sy.atom
  split
  · assumption
  · simp
theorem anum_new {σ : Sy} {x : Str} (h : x ∉ σ.texts) : σ.anum x = (σ.texts.length : Int) := by
  unfold Sy.anum; rw [List.idxOf_eq_length h]
theorem nodup_snoc {α : Type} {l : List α} {x : α} (h : l.Nodup) (hx : x ∉ l) : (l ++ [x]).Nodup :=
  List.nodup_append.mpr ⟨h, List.pairwise_singleton _ _, fun a ha b hb e => hx (by rw [← List.mem_singleton.mp hb, ← e]; exact ha)⟩
theorem textsV_add {tvs : List Value} {l : List Str} {x : Str} {t : Tok} (h : TextsV tvs l) : TextsV (tvs ++ [.str x t]) (l ++ [x]) := by
  refine ⟨by simp [h.1], fun i y hy => ?_⟩
  rcases Nat.lt_or_ge i l.length with hi | hi
  · rw [List.getElem?_append_left hi] at hy
    obtain ⟨t', ht⟩ := h.2 i y hy
    exact ⟨t', by rw [List.getElem?_append_left (by rw [h.1]; exact hi)]; exact ht⟩
  · rw [List.getElem?_append_right hi] at hy
    rw [List.getElem?_append_right (by rw [h.1]; exact hi), h.1]
    cases hk : i - l.length with
    | zero => rw [hk] at hy; simp at hy; subst hy; exact ⟨t, by simp⟩
    | succ k => rw [hk] at hy; simp at hy
theorem atomD_add {w : World} {σ : Sy} {kvs : List (Str × Value)} {ao : Obj} {x : Str} {t : Tok} (hd : ao.IsDictOf (strKind PySem.Challenge.rw_sa0166_01.row.prog w) (stored kvs x (.int (σ.texts.length : Int) t))) (e : kvs.map (·.1) = σ.texts)
    (hi : ∀ (i : Nat) (kv : Str × Value), kvs[i]? = some kv → ∃ t, kv.2 = .int (i : Int) t) (h : x ∉ σ.texts) : AtomD w ⟨σ.texts ++ [x], σ.funs⟩ ao := by
  have hs : stored kvs x (.int (σ.texts.length : Int) t) = kvs ++ [(x, .int (σ.texts.length : Int) t)] := by
    unfold stored
    rw [if_neg]
    simp only [List.any_eq_true, decide_eq_true_eq, not_exists, not_and]
    intro kv hk e'
    exact h (by rw [← e, ← e']; exact List.mem_map.mpr ⟨kv, hk, rfl⟩)
  rw [hs] at hd
  have hl : kvs.length = σ.texts.length := by rw [← e, List.length_map]
  refine ⟨_, hd, by simp [e], fun i kv hk => ?_⟩
  rcases Nat.lt_or_ge i kvs.length with hi' | hi'
  · rw [List.getElem?_append_left hi'] at hk; exact hi i kv hk
  · rw [List.getElem?_append_right hi'] at hk
    cases hq : i - kvs.length with
    | zero =>
      rw [hq] at hk; simp at hk; subst hk
      exact ⟨t, by show Value.int (σ.texts.length : Int) t = _; rw [show i = σ.texts.length by (first | with_reducible exact om48 hl hi' hq | omega)]⟩
    | succ k => rw [hq] at hk; simp at hk
theorem pairs_inj {l : List (Int × Int)} (h : l.Nodup) : (l.map fun f => [f.1, f.2]).Nodup := by
  unfold List.Nodup at *
  rw [List.pairwise_map]
  refine h.imp fun {a b} hab e => hab ?_
  simp only [List.cons.injEq, and_true] at e
  exact Prod.ext e.1 e.2
theorem atKey_no {σ : Sy} {xs : List (List Int × Addr × Value)} {f : Int × Int} (e : xs.map (·.1) = σ.funs.map (fun f => [f.1, f.2])) (h : f ∉ σ.funs) : atKey xs [f.1, f.2] = none := by
  unfold atKey
  rw [List.find?_eq_none.mpr]
  · rfl
  · intro x hx
    simp only [decide_eq_true_eq]
    intro e'
    have : x.1 ∈ xs.map (·.1) := List.mem_map.mpr ⟨x, hx, rfl⟩
    rw [e, e'] at this
    obtain ⟨g, hg, eg⟩ := List.mem_map.mp this
    simp only [List.cons.injEq, and_true] at eg
    exact h (by rw [← Prod.ext eg.1 eg.2]; exact hg)
theorem atKey_yes {σ : Sy} {xs : List (List Int × Addr × Value)} {f : Int × Int} (e : xs.map (·.1) = σ.funs.map (fun f => [f.1, f.2])) (hn : σ.funs.Nodup)
    (hi : ∀ (i : Nat) (x : List Int × Addr × Value), xs[i]? = some x → ∃ t, x.2.2 = .int (i : Int) t) (h : f ∈ σ.funs) : ∃ a t, atKey xs [f.1, f.2] = some (a, .int (σ.fnum f) t) := by
  have hl : σ.funs.idxOf f < σ.funs.length := List.idxOf_lt_length_of_mem h
  have hlen : xs.length = σ.funs.length := by have := congrArg List.length e; simpa using this
  have hl' : σ.funs.idxOf f < xs.length := by rw [hlen]; exact hl
  have hx : (xs[σ.funs.idxOf f]'hl').1 = [f.1, f.2] := by
    have a : (xs.map (·.1))[σ.funs.idxOf f]? = (σ.funs.map (fun f => [f.1, f.2]))[σ.funs.idxOf f]? := by rw [e]
    rw [List.getElem?_map, List.getElem?_map, List.getElem?_eq_getElem hl, List.getElem?_eq_getElem hl', Option.map_some, Option.map_some, List.getElem_idxOf hl] at a
    exact Option.some.inj a
  obtain ⟨t, ht⟩ := hi _ _ (List.getElem?_eq_getElem hl')
  refine ⟨(xs[σ.funs.idxOf f]'hl').2.1, t, ?_⟩
  refine atKey_of_get (e ▸ pairs_inj hn) (i := σ.funs.idxOf f) ?_
  rw [List.getElem?_eq_getElem hl']
  congr 1
  exact Prod.ext hx (Prod.ext rfl ht)
theorem fnum_new {σ : Sy} {f : Int × Int} (h : f ∉ σ.funs) : σ.fnum f = (σ.funs.length : Int) := by
  unfold Sy.fnum; rw [List.idxOf_eq_length h]
theorem funD_add {σ : Sy} {xs : List (List Int × Addr × Value)} {fas : List Addr} {KT : Led} {f : Int × Int} {a : Addr} {t1 t2 t : Tok} {n : Nat} {z : Int} (h : FunD σ xs fas KT) (hz : z = (σ.funs.length : Int)) :
    FunD ⟨σ.texts, σ.funs ++ [f]⟩ (xs ++ [([f.1, f.2], a, .int z t)]) (fas ++ [a]) ((a, tupO [.int f.1 t1, .int f.2 t2] n) :: KT) := by
  subst hz
  obtain ⟨e1, e2, hi, hk⟩ := h
  have hlen : xs.length = σ.funs.length := by have := congrArg List.length e1; simpa using this
  refine ⟨by simp [e1], by simp [e2], fun i x hx => ?_, fun x hx => ?_⟩
  · rcases Nat.lt_or_ge i xs.length with hl | hl
    · rw [List.getElem?_append_left hl] at hx; exact hi i x hx
    · rw [List.getElem?_append_right hl] at hx
      cases hq : i - xs.length with
      | zero =>
        rw [hq] at hx; simp at hx; subst hx
        exact ⟨t, by show Value.int (σ.funs.length : Int) t = _; rw [show i = σ.funs.length by (first | with_reducible exact om48 hlen hl hq | omega)]⟩
      | succ k => rw [hq] at hx; simp at hx
  · rcases List.mem_append.mp hx with hx | hx
    · obtain ⟨i, j, t1, t2, n, e, hm⟩ := hk x hx
      exact ⟨i, j, t1, t2, n, e, .tail _ hm⟩
    · rw [List.mem_singleton.mp hx]
      exact ⟨f.1, f.2, t1, t2, n, rfl, .head _⟩
theorem funD_at {σ : Sy} {xs : List (List Int × Addr × Value)} {fas : List Addr} {KT : Led} {f : Int × Int} {i : Nat} (h : FunD σ xs fas KT) (hf : σ.funs[i]? = some f) :
    ∃ a t1 t2 n, (fas.map Value.ref)[i]? = some (.ref a) ∧ (a, tupO [.int f.1 t1, .int f.2 t2] n) ∈ KT := by
  obtain ⟨e1, e2, hi, hk⟩ := h
  have a1 : (xs.map (·.1))[i]? = some [f.1, f.2] := by rw [e1, List.getElem?_map, hf]; rfl
  rw [List.getElem?_map] at a1
  obtain ⟨x, hx, ex⟩ := Option.map_eq_some_iff.mp a1
  obtain ⟨p, q, t1, t2, n, ep, hm⟩ := hk x (List.mem_of_getElem? hx)
  rw [ex] at ep
  simp only [List.cons.injEq, and_true] at ep
  refine ⟨x.2.1, t1, t2, n, ?_, by rw [ep.1, ep.2]; exact hm⟩
  rw [← e2, List.getElem?_map, List.getElem?_map, hx]; rfl
theorem small_atom {σ : Sy} {x : Str} {n : Nat} (h : σ.Small n) : (σ.atom x).Small (n + 1) := by
  unfold Sy.atom
  split
  · exact ⟨Nat.le_succ_of_le h.1, Nat.le_succ_of_le h.2⟩
  · exact ⟨by simpa using h.1, Nat.le_succ_of_le h.2⟩
theorem small_functor {σ : Sy} {f : Int × Int} {n : Nat} (h : σ.Small n) : (σ.functor f).Small (n + 1) := by
  unfold Sy.functor
  split
  · exact ⟨Nat.le_succ_of_le h.1, Nat.le_succ_of_le h.2⟩
  · exact ⟨Nat.le_succ_of_le h.1, by simpa using h.2⟩
theorem Sy.Small.mono {σ : Sy} {n k : Nat} (h : σ.Small n) (e : n ≤ k) : σ.Small k := ⟨Nat.le_trans h.1 e, Nat.le_trans h.2 e⟩
theorem idxOf_app {l r : List Str} {x : Str} (h : x ∈ l) : (l ++ r).idxOf x = l.idxOf x := by rw [List.idxOf_append, if_pos h]
theorem anum_atom {σ : Sy} {x y : Str} (h : y ∈ σ.texts) : (σ.atom x).anum y = σ.anum y := by
  unfold Sy.atom Sy.anum
  split
  · rfl
  · rw [idxOf_app h]
theorem atom_texts {σ : Sy} {x y : Str} (h : y ∈ σ.texts) : y ∈ (σ.atom x).texts := by
  unfold Sy.atom
  split
  · exact h
  · exact List.mem_append_left _ h
theorem atom_funs {σ : Sy} {x : Str} : (σ.atom x).funs = σ.funs := by unfold Sy.atom; split <;> rfl
theorem dot_atom {σ : Sy} {x : Str} (h : σ.Dot) : (σ.atom x).Dot := by
  refine ⟨?_, atom_texts h.2⟩
  rw [anum_atom h.2]
  unfold Sy.atom
  split <;> exact h.1
theorem functor_texts {σ : Sy} {f : Int × Int} : (σ.functor f).texts = σ.texts := by
  unfold Sy.functor; split <;> rfl
theorem dot_functor {σ : Sy} {f : Int × Int} (h : σ.Dot) : (σ.functor f).Dot := by
  unfold Sy.Dot Sy.anum
  rw [functor_texts]
  refine ⟨?_, h.2⟩
  unfold Sy.functor
  split
  · exact h.1
  · have := h.1
    have hl : 0 < σ.funs.length := (List.getElem?_eq_some_iff.mp this).1
    rw [List.getElem?_append_left hl]; exact this
theorem dot_func {σ : Sy} {x : Str} {k : Int} (h : σ.Dot) : (σ.func x k).Dot := dot_functor (dot_atom h)
theorem dot_first {σ : Sy} (h : σ.funs = []) : (σ.func (Str.ofString ".") 2).Dot := by
  have hf : (σ.atom (Str.ofString ".")).funs = [] := by unfold Sy.atom; split <;> exact h
  have ht : (σ.func (Str.ofString ".") 2).texts = (σ.atom (Str.ofString ".")).texts := functor_texts
  refine ⟨?_, by rw [ht]; exact mem_atom⟩
  have ha : (σ.func (Str.ofString ".") 2).anum (Str.ofString ".") = σ.anum (Str.ofString ".") := by
    show ((σ.func (Str.ofString ".") 2).texts.idxOf _ : Int) = _
    rw [ht]
    by_cases hx : Str.ofString "." ∈ σ.texts
    · exact anum_atom hx
    · rw [show σ.atom (Str.ofString ".") = ⟨σ.texts ++ [Str.ofString "."], σ.funs⟩ from if_neg hx]
      unfold Sy.anum
      rw [List.idxOf_append, if_neg hx, List.idxOf_eq_length hx]; simp
  rw [ha]
  unfold Sy.func Sy.functor
  rw [hf, if_neg (by simp)]; rfl
theorem small_func {σ : Sy} {x : Str} {k : Int} {n : Nat} (h : σ.Small n) : (σ.func x k).Small (n + 1) := by
  unfold Sy.func Sy.functor Sy.atom
  split <;> split <;> refine ⟨?_, ?_⟩ <;> (have h1 := h.1; have h2 := h.2; (try simp only [List.length_append, List.length_cons, List.length_nil]); (first | with_reducible exact om46 h2 | with_reducible exact om47 h2 | with_reducible exact om46 h1 | with_reducible exact om47 h1 | omega))
end Mine
namespace Mine
open PySem PySem.Calls PyProof.Rows PySem.Spec
def atom_R_T (w : World) (sy : Addr) (σ : Sy) (R : Led) (x : Str) (K7 : Value → Led → Prop) : Prop := ∀ S', ∀ u, SymAt w sy (σ.atom x) S' → K7 (.int (σ.anum x) u) (S' ++ R)
def atom_R (w : World) (sy : Addr) (σ : Sy) (R : Led) (x : Str) (r : Value) (led' : Led) : Prop := ∀ K7 : Value → Led → Prop, atom_R_T w sy σ R x K7 → K7 r led'
theorem atom_R_mk {w : World} {sy : Addr} {σ : Sy} {R : Led} {x : Str} {r : Value} {led' : Led} : ∀ S', ∀ u, SymAt w sy (σ.atom x) S' → led' = S' ++ R → r = .int (σ.anum x) u → atom_R w sy σ R x r led' := by
  intro _ _ a0 a1 a2
  subst a1
  subst a2
  exact fun K7 k7 => k7 _ _ a0
theorem atom_R_pt {w : World} {sy : Addr} {σ : Sy} {R : Led} {x : Str} (K7 : Value → Led → Prop) (k7 : atom_R_T w sy σ R x K7) (r : Value) (led' : Led) (h7 : atom_R w sy σ R x r led') : K7 r led' := h7 K7 k7
theorem atom_tells {w : World} {sy : Addr} {σ : Sy} {S R : Led} {x : Str} {t : Tok} (hS : SymAt w sy σ S) (hz : σ.Small 90000) :
    Tells w 88 [.ref sy, .str x t] 1 (S ++ R) (atom_R w sy σ R x) NoErr := by
  refine hidE ?_; simp (disch := k_dflt (
    refine hidW ?_
    intro dp un gd cn cs L a ccd cl outer A₀ base h₀ p loose mean mg mb m s Q E B F X N T hk dm hd hu hret hthr
    rename Option (List Code) => gd1Z; (k_with "ar2" => guard_hyp gd1Z; first | with_reducible exact op20 l3 | with_reducible exact op16 l1 l2 l3 | with_reducible exact op23 l2 l3 | with_reducible exact op20 l2 | with_reducible exact op53 l4 | with_reducible exact op61 l4 l5 | with_reducible exact op23 l1 l2 | with_reducible exact op30 htl)
    refine sym_open hS ?_; rintro dsy tx an fn fnn h1 h2 h3 h4 k1 k2 k3 k4 tvs n1 ao fas n2 xs n3 KT rfl l1 l2 l3 l4 l5 lo1 lo2 hT kvs hd2 he hi hF hcls hKT hnT hnF
    simp only [List.cons_append] at N dm
    have hRtx : ∀ q ∈ KT ++ R, q.1 ≠ tx := off N dm (by walk_at "beh") ncl
    have hRan : ∀ q ∈ KT ++ R, q.1 ≠ an := off N dm (by walk_at "beh") (by rw [hcls]; exact ncd)
    by_cases hx : x ∈ σ.texts
    · (refine Gen fun gG9 gK9 => ?_; obtain ⟨t', hv⟩ := valueAt_some he hnT hi hx; refine gK9 ?_; clear gK9 gG9)
      have hpos : 0 ≤ σ.anum x := Int.natCast_nonneg _
      (revert X; k_fill; intro X; refine wpAny_call ?_; k_dflt ktr_enter; walk_at "loc"; refine genT ?_; intro tk9)
      walk_at "st9"
      (refine' hret _ _ _ _ ?F22 ?N22 ?D ?P; (case F22 => k_asm); (case N22 => k_asm))
      (case D => exact dm)
      (case P => exact atom_R_mk (_ :: _ :: _ :: _ :: _ :: _ :: KT) _ (⟨dsy, tx, an, fn, fnn, _, _, _, _, _, _, _, _, _, _, _, _, _, _, _, _, rfl, ⟨l1, l2, l3, l4, l5⟩, lo1, lo2, by rw [show σ.atom x = σ from if_pos hx]; exact hT, by rw [show σ.atom x = σ from if_pos hx]; exact ⟨kvs, hd2, he, hi⟩, by rw [show σ.atom x = σ from if_pos hx]; exact hF, hcls, hKT, by rw [show σ.atom x = σ from if_pos hx]; exact hnT, by rw [show σ.atom x = σ from if_pos hx]; exact hnF⟩) rfl rfl)
    · have hv := valueAt_none he hx
      have hkl : kvs.length ≤ 100000 := by have := hz.1; rw [← he, List.length_map] at this; walk_at "ar"
      have htl : tvs.length ≤ 90000 := by rw [hT.1]; exact hz.1
      (revert X; k_fill; intro X; refine wpAny_call ?_; k_dflt ktr_enter; walk_at "loc"; refine genT ?_; intro tk9)
      walk_at "st9"
      rename Obj.cls _ = Value.type "dict" => hc
      rename Obj.IsDictOf _ _ (stored _ _ _) => hd3
      have ea : σ.atom x = ⟨σ.texts ++ [x], σ.funs⟩ := if_neg hx
      rw [hT.1] at *
      (refine' hret _ _ _ _ ?F24 ?N24 ?D ?P; (case F24 => k_asm); (case N24 => k_asm))
      (case D => exact dm.same (by simp only [List.map_cons, key, kd_dict hd3, kd_dict hd2, hc, hcls]; rfl))
      (case P => exact atom_R_mk (_ :: _ :: _ :: _ :: _ :: _ :: KT) _ (⟨dsy, tx, an, fn, fnn, _, _, _, _, _, _, _, _, _, _, _, _, _, _, _, _, rfl, ⟨l1, l2, l3, l4, l5⟩, lo1, lo2, by rw [ea]; exact textsV_add hT, by rw [ea]; exact atomD_add hd3 he hi hx, by rw [ea]; exact hF, hc, hKT, by rw [ea]; exact nodup_snoc hnT hx, by rw [ea]; exact hnF⟩) rfl (by rw [anum_new hx])))) only [↓hidL]
def text_R_T (S R : Led) (x : Str) (K7 : Value → Led → Prop) : Prop := ∀ u, K7 (.str x u) (S ++ R)
def text_R (S R : Led) (x : Str) (r : Value) (led' : Led) : Prop := ∀ K7 : Value → Led → Prop, text_R_T S R x K7 → K7 r led'
theorem text_R_mk {S R : Led} {x : Str} {r : Value} {led' : Led} : ∀ u, led' = S ++ R → r = .str x u → text_R S R x r led' := by
  intro _ a0 a1
  subst a0
  subst a1
  exact fun K7 k7 => k7 _
theorem text_R_pt {S R : Led} {x : Str} (K7 : Value → Led → Prop) (k7 : text_R_T S R x K7) (r : Value) (led' : Led) (h7 : text_R S R x r led') : K7 r led' := h7 K7 k7
theorem text_tells {w : World} {sy : Addr} {σ : Sy} {S R : Led} {n : Int} {x : Str} {t : Tok} (hS : SymAt w sy σ S) (h0 : 0 ≤ n) (hz : n < 100000) (hx : σ.texts[n.toNat]? = some x) :
    Tells w 95 [.ref sy, .int n t] 1 (S ++ R) (text_R S R x) NoErr := by
  refine hidE ?_; simp (disch := k_dflt (
    refine hidW ?_
    intro dp un gd cn cs L a ccd cl outer A₀ base h₀ p loose mean mg mb m s Q E B F X N T hk dm hd hu hret hthr
    refine sym_text hS ?_; intro dsy tx an fn fnn h1 h2 h3 h4 k1 k2 k3 k4 tvs n1 hi1 hi2 hi3 hT
    (refine Gen fun gG9 gK9 => ?_; obtain ⟨t', hx'⟩ := hT.2 _ _ hx; refine gK9 ?_; clear gK9 gG9)
    (revert X; k_fill; intro X; refine wpAny_call ?_; k_dflt ktr_enter; walk_at "loc"; refine genT ?_; intro tk9)
    walk_at "st9"
    (refine' hret _ _ _ _ ?F27 ?N27 ?D ?P; (case F27 => k_asm); (case N27 => k_asm))
    (case D => exact dm)
    (case P => exact text_R_mk _ rfl rfl))) only [↓hidL]
def functor_R_T (w : World) (sy : Addr) (σ : Sy) (R : Led) (f : Int × Int) (K7 : Value → Led → Prop) : Prop := ∀ S', ∀ u, SymAt w sy (σ.functor f) S' → K7 (.int (σ.fnum f) u) (S' ++ R)
def functor_R (w : World) (sy : Addr) (σ : Sy) (R : Led) (f : Int × Int) (r : Value) (led' : Led) : Prop := ∀ K7 : Value → Led → Prop, functor_R_T w sy σ R f K7 → K7 r led'
theorem functor_R_mk {w : World} {sy : Addr} {σ : Sy} {R : Led} {f : Int × Int} {r : Value} {led' : Led} : ∀ S', ∀ u, SymAt w sy (σ.functor f) S' → led' = S' ++ R → r = .int (σ.fnum f) u → functor_R w sy σ R f r led' := by
  intro _ _ a0 a1 a2
  subst a1
  subst a2
  exact fun K7 k7 => k7 _ _ a0
theorem functor_R_pt {w : World} {sy : Addr} {σ : Sy} {R : Led} {f : Int × Int} (K7 : Value → Led → Prop) (k7 : functor_R_T w sy σ R f K7) (r : Value) (led' : Led) (h7 : functor_R w sy σ R f r led') : K7 r led' := h7 K7 k7
theorem functor_tells {w : World} {sy : Addr} {σ : Sy} {S R : Led} {f : Int × Int} {t t' : Tok} (hS : SymAt w sy σ S) (hz : σ.Small 90000) :
    Tells w 102 [.ref sy, .int f.1 t, .int f.2 t'] 1 (S ++ R) (functor_R w sy σ R f) NoErr := by
  refine hidE ?_; simp (disch := k_dflt (
    refine hidW ?_
    intro dp un gd cn cs L a ccd cl outer A₀ base h₀ p loose mean mg mb m s Q E B F X N T hk dm hd hu hret hthr
    rename Option (List Code) => gd2Z; (k_with "ar2" => guard_hyp gd2Z; first | with_reducible exact op5 l2 l3 l4 l5 | with_reducible exact op16 l2 l3 l4 | with_reducible exact op5 l1 l2 l3 l4 | with_reducible exact op23 l3 l4 | with_reducible exact op26 l1 l2 l3 l4 l5 | with_reducible exact op20 l4 | with_reducible exact op30 hfz | with_reducible exact op23 l4 l5 | with_reducible exact op16 l3 l4 l5 | with_reducible exact op20 l5 | with_reducible exact op57 hfl this | with_reducible exact op79 hxl this)
    refine sym_open hS ?_; rintro dsy tx an fn fnn h1 h2 h3 h4 k1 k2 k3 k4 tvs n1 ao fas n2 xs n3 KT rfl l1 l2 l3 l4 l5 lo1 lo2 hT kvs hd2 he hi hF hcls hKT hnT hnF
    simp only [List.cons_append] at N dm
    have hRfn : ∀ q ∈ KT ++ R, q.1 ≠ fn := off N dm (by walk_at "beh") ncl
    have hRfnn : ∀ q ∈ KT ++ R, q.1 ≠ fnn := off N dm (by walk_at "beh") ncd
    (refine Gen fun gG9 gK9 => ?_; obtain ⟨e1, e2, hj, hk2⟩ := id hF; refine gK9 ?_; clear gK9 gG9)
    have hxn : (xs.map (·.1)).Nodup := e1 ▸ pairs_inj hnF
    have hxl : xs.length = σ.funs.length := by have := congrArg List.length e1; simpa using this
    have hfl : fas.length = σ.funs.length := by rw [← e2, List.length_map, hxl]
    have hxz : xs.length ≤ 100000 := by have := hz.2; walk_at "ar"
    have hfz : (fas.map Value.ref).length ≤ 90000 := by have := hz.2; rw [List.length_map]; walk_at "ar"
    by_cases hx : f ∈ σ.funs
    · (refine Gen fun gG9 gK9 => ?_; obtain ⟨ka, kt, hv⟩ := atKey_yes e1 hnF hj hx; refine gK9 ?_; clear gK9 gG9)
      have hpos : 0 ≤ σ.fnum f := Int.natCast_nonneg _
      (revert X; k_fill; intro X; refine wpAny_call ?_; k_dflt ktr_enter; walk_at "loc"; refine genT ?_; intro tk9)
      walk_at "st9"
      have ea : σ.functor f = σ := if_pos hx
      (refine' hret _ _ _ _ ?F31 (News.tl ?N31) ?D ?P; (case F31 => k_asm); (case N31 => k_asm))
      (case D => exact dm)
      (case P => exact functor_R_mk (_ :: _ :: _ :: _ :: _ :: _ :: KT) _ (⟨dsy, tx, an, fn, fnn, _, _, _, _, _, _, _, _, _, _, _, _, _, _, _, _, rfl, ⟨l1, l2, l3, l4, l5⟩, lo1, lo2, by rw [ea]; exact hT, by rw [ea]; exact ⟨kvs, hd2, he, hi⟩, by rw [ea]; exact hF, hcls, hKT, by rw [ea]; exact hnT, by rw [ea]; exact hnF⟩) rfl rfl)
    · have hv := atKey_no e1 hx
      (revert X; k_fill; intro X; refine wpAny_call ?_; k_dflt ktr_enter; walk_at "loc"; refine genT ?_; intro tk9)
      walk_at "st9"
      have ea : σ.functor f = ⟨σ.texts, σ.funs ++ [f]⟩ := if_neg hx
      have hfl2 : (((fas.map Value.ref).length : Nat) : Int) = (σ.funs.length : Int) := by rw [List.length_map, hfl]
      refine' hret _ _ _ _ ?F (News.perm (List.perm_middle (l₁ := [_, _, _, _, _, _])).symm ?N) ?D ?P
      (case F => k_asm)
      (case N => k_asm)
      (case D => exact Dm.perm (List.perm_middle (l₁ := [_, _, _, _, _, _])).symm (Dm.same2 (by assumption) (by first | rfl | assumption)))
      (case P => exact functor_R_mk (_ :: _ :: _ :: _ :: _ :: _ :: _ :: KT) _ (⟨dsy, tx, an, fn, fnn, _, _, _, _, _, _, _, _, _, _, _, fas ++ [_], _, _, _, _, by rw [List.map_append]; rfl, ⟨l1, l2, l3, l4, l5⟩, lo1, lo2, by rw [ea]; exact hT, by rw [ea]; exact ⟨kvs, hd2, he, hi⟩, by rw [ea]; exact funD_add hF hfl2, hcls, tupL_cons rfl hKT, by rw [ea]; exact hnT, by rw [ea]; exact nodup_snoc hnF hx⟩) rfl (by rw [fnum_new hx, hfl2])))) only [↓hidL]
end Mine
namespace Mine
open PySem PySem.Calls PyProof.Rows PySem.Spec
def func_R_T (w : World) (sy : Addr) (σ : Sy) (R : Led) (x : Str) (k : Int) (K7 : Value → Led → Prop) : Prop := ∀ S', ∀ u, SymAt w sy (σ.func x k) S' → K7 (.int (σ.funcN x k) u) (S' ++ R)
def func_R (w : World) (sy : Addr) (σ : Sy) (R : Led) (x : Str) (k : Int) (r : Value) (led' : Led) : Prop := ∀ K7 : Value → Led → Prop, func_R_T w sy σ R x k K7 → K7 r led'
theorem func_R_mk {w : World} {sy : Addr} {σ : Sy} {R : Led} {x : Str} {k : Int} {r : Value} {led' : Led} : ∀ S', ∀ u, SymAt w sy (σ.func x k) S' → led' = S' ++ R → r = .int (σ.funcN x k) u → func_R w sy σ R x k r led' := by
  intro _ _ a0 a1 a2
  subst a1
  subst a2
  exact fun K7 k7 => k7 _ _ a0
theorem func_R_pt {w : World} {sy : Addr} {σ : Sy} {R : Led} {x : Str} {k : Int} (K7 : Value → Led → Prop) (k7 : func_R_T w sy σ R x k K7) (r : Value) (led' : Led) (h7 : func_R w sy σ R x k r led') : K7 r led' := h7 K7 k7
theorem func_tells {w : World} {sy : Addr} {σ : Sy} {S R : Led} {x : Str} {k : Int} {t t' : Tok} (hS : SymAt w sy σ S) (hz : σ.Small 80000) :
    Tells w 109 [.ref sy, .str x t, .int k t'] 2 (S ++ R) (func_R w sy σ R x k) NoErr := by
  refine hidE ?_; simp (disch := k_dflt (
    refine hidW ?_
    intro dp un gd cn cs L a ccd cl outer A₀ base h₀ p loose mean mg mb m s Q E B F X N T hk dm hd hu hret hthr
    refine sym_inst hS ?_; intro _ _ _ _ _ _ _ _ _ _ _ _ _ hi1 hi2
    rename Option (List Code) => gd3Z
    k_with "mine call" => guard_hyp gd3Z; first
      | k_dflt (refine' go1n (e := atom_R_pt) (atom_tells hS (hz.mono (by decide))) ?B34 ?F34 ?X34 ?N34 ?T34 ?hk34 ?d34 ?r34 ?hd34 ?hu34 ?_; (case B34 => k_asm); (case F34 => k_asm); (case X34 => k_asm); (case N34 => k_asm); (case T34 => k_asm); (case hk34 => first | exact rfl | assumption); (case d34 => walk_at "dmx"); (case r34 => walk_at "rot"); (case hd34 => walk_at "hdx"); (case hu34 => walk_at "hux"); intro S9 u9 hS9 h9 tk9 F9 N9 D9; (try k_sweep); (try dsimp only))
      | k_dflt (refine' go1n (e := functor_R_pt) (functor_tells (f := (_, _)) (by assumption) ((small_atom hz).mono (by decide))) ?B35 ?F35 ?X35 ?N35 ?T35 ?hk35 ?d35 ?r35 ?hd35 ?hu35 ?_; (case B35 => k_asm); (case F35 => k_asm); (case X35 => k_asm); (case N35 => k_asm); (case T35 => k_asm); (case hk35 => first | exact rfl | assumption); (case d35 => walk_at "dmx"); (case r35 => walk_at "rot"); (case hd35 => walk_at "hdx"); (case hu35 => walk_at "hux"); intro S9 u9 hS9 h9 tk9 F9 N9 D9; (try k_sweep); (try dsimp only))
    (revert X; k_fill; intro X; refine wpAny_call ?_; k_dflt ktr_enter; walk_at "loc"; refine genT ?_; intro tk9)
    walk_at "st9"
    (refine' hret _ _ _ _ ?F37 ?N37 ?D ?P; (case F37 => k_asm); (case N37 => k_asm))
    (case D => assumption)
    (case P => exact func_R_mk _ _ (by assumption) rfl rfl))) only [↓hidL]
def name_R_T (S R : Led) (f : Int × Int) (K7 : Value → Led → Prop) : Prop := ∀ u, K7 (.int f.1 u) (S ++ R)
def name_R (S R : Led) (f : Int × Int) (r : Value) (led' : Led) : Prop := ∀ K7 : Value → Led → Prop, name_R_T S R f K7 → K7 r led'
theorem name_R_mk {S R : Led} {f : Int × Int} {r : Value} {led' : Led} : ∀ u, led' = S ++ R → r = .int f.1 u → name_R S R f r led' := by
  intro _ a0 a1
  subst a0
  subst a1
  exact fun K7 k7 => k7 _
theorem name_R_pt {S R : Led} {f : Int × Int} (K7 : Value → Led → Prop) (k7 : name_R_T S R f K7) (r : Value) (led' : Led) (h7 : name_R S R f r led') : K7 r led' := h7 K7 k7
theorem name_tells {w : World} {sy : Addr} {σ : Sy} {S R : Led} {n : Int} {f : Int × Int} {t : Tok} (hS : SymAt w sy σ S) (h0 : 0 ≤ n) (hz : n < 100000) (hx : σ.funs[n.toNat]? = some f) :
    Tells w 116 [.ref sy, .int n t] 1 (S ++ R) (name_R S R f) NoErr := by
  refine hidE ?_; simp (disch := k_dflt (
    refine hidW ?_
    intro dp un gd cn cs L a ccd cl outer A₀ base h₀ p loose mean mg mb m s Q E B F X N T hk dm hd hu hret hthr
    refine sym_fun hS ?_; intro dsy tx an fn fnn h1 h2 h3 h4 k1 k2 k3 k4 fas n2 xs KT hi1 hi2 hi3 hF hKS
    (refine Gen fun gG9 gK9 => ?_; obtain ⟨ka, q1, q2, kn, hv, hka⟩ := funD_at hF hx; refine gK9 ?_; clear gK9 gG9)
    have hkm := List.mem_append_left R (hKS _ hka)
    (revert X; k_fill; intro X; refine wpAny_call ?_; k_dflt ktr_enter; walk_at "loc"; refine genT ?_; intro tk9)
    walk_at "st9"
    (refine' hret _ _ _ _ ?F40 ?N40 ?D ?P; (case F40 => k_asm); (case N40 => k_asm))
    (case D => exact dm)
    (case P => exact name_R_mk _ rfl rfl))) only [↓hidL]
def arity_R_T (S R : Led) (f : Int × Int) (K7 : Value → Led → Prop) : Prop := ∀ u, K7 (.int f.2 u) (S ++ R)
def arity_R (S R : Led) (f : Int × Int) (r : Value) (led' : Led) : Prop := ∀ K7 : Value → Led → Prop, arity_R_T S R f K7 → K7 r led'
theorem arity_R_mk {S R : Led} {f : Int × Int} {r : Value} {led' : Led} : ∀ u, led' = S ++ R → r = .int f.2 u → arity_R S R f r led' := by
  intro _ a0 a1
  subst a0
  subst a1
  exact fun K7 k7 => k7 _
theorem arity_R_pt {S R : Led} {f : Int × Int} (K7 : Value → Led → Prop) (k7 : arity_R_T S R f K7) (r : Value) (led' : Led) (h7 : arity_R S R f r led') : K7 r led' := h7 K7 k7
theorem arity_tells {w : World} {sy : Addr} {σ : Sy} {S R : Led} {n : Int} {f : Int × Int} {t : Tok} (hS : SymAt w sy σ S) (h0 : 0 ≤ n) (hz : n < 100000) (hx : σ.funs[n.toNat]? = some f) :
    Tells w 123 [.ref sy, .int n t] 1 (S ++ R) (arity_R S R f) NoErr := by
  refine hidE ?_; simp (disch := k_dflt (
    refine hidW ?_
    intro dp un gd cn cs L a ccd cl outer A₀ base h₀ p loose mean mg mb m s Q E B F X N T hk dm hd hu hret hthr
    refine sym_fun hS ?_; intro dsy tx an fn fnn h1 h2 h3 h4 k1 k2 k3 k4 fas n2 xs KT hi1 hi2 hi3 hF hKS
    (refine Gen fun gG9 gK9 => ?_; obtain ⟨ka, q1, q2, kn, hv, hka⟩ := funD_at hF hx; refine gK9 ?_; clear gK9 gG9)
    have hkm := List.mem_append_left R (hKS _ hka)
    (revert X; k_fill; intro X; refine wpAny_call ?_; k_dflt ktr_enter; walk_at "loc"; refine genT ?_; intro tk9)
    walk_at "st9"
    (refine' hret _ _ _ _ ?F43 ?N43 ?D ?P; (case F43 => k_asm); (case N43 => k_asm))
    (case D => exact dm)
    (case P => exact arity_R_mk _ rfl rfl))) only [↓hidL]
end Mine
namespace Mine
open PySem PySem.Calls PyProof.Rows PySem.Spec
theorem upd_app {d : Addr} {o o' : Obj} {l l' : Led} : ∀ {P : Led}, (∀ p ∈ P, p.1 ≠ d) → Upd d o o' l l' → Upd d o o' (P ++ l) (P ++ l')
  | [], _, u => u
  | x :: P, h, u => .tail (h x (.head _)) (upd_app (fun p hp => h p (.tail _ hp)) u)
/-- Q stands in the ledger, and x behind it -/
theorem Beh.at {x : Addr × Obj} {Q l : Led} (m : x ∈ l) : Beh x Q (Q ++ l) := ⟨⟨List.mem_append_right _ m, fun _ h => List.mem_append_left _ h⟩, fun d q hq => (d.app_of.2.2 q hq x m).symm⟩
theorem Beh.at1 {x y : Addr × Obj} {l : Led} (m : x ∈ l) : Beh x [y] (y :: l) := Beh.at (Q := [y]) m
theorem upd_off {h₀ h : Heap} {L d : Addr} {o o' : Obj} {led Q l l' : Led} (u : Upd d o o' l l') (N : News h₀ L h led) (dm : Dm led) (b : Beh (d, o) Q led) (ho : o.cls ≠ .type "tuple") : Upd d o o' (Q ++ l) (Q ++ l') := upd_app (off N dm b ho) u
theorem updF_app {d : Addr} {o : Obj} {l : Led} {g : Obj → Led} : ∀ {P : Led}, (∀ p ∈ P, p.1 ≠ d) → UpdF d o l g → UpdF d o (P ++ l) (fun o' => P ++ g o')
  | [], _, u => u
  | x :: P, h, u => .tail (h x (.head _)) (updF_app (fun p hp => h p (.tail _ hp)) u)
theorem updF_off {h₀ h : Heap} {L d : Addr} {o : Obj} {led Q l : Led} {g : Obj → Led} (u : UpdF d o l g) (N : News h₀ L h led) (dm : Dm led) (b : Beh (d, o) Q led) (ho : o.cls ≠ .type "tuple") : UpdF d o (Q ++ l) (fun o' => Q ++ g o') := updF_app (off N dm b ho) u
theorem off1 {h₀ h : Heap} {L d : Addr} {o : Obj} {y : Addr × Obj} {led : Led} (N : News h₀ L h led) (dm : Dm led) (b : Beh (d, o) [y] led) (ho : o.cls ≠ .type "tuple") : y.1 ≠ d := off N dm b ho y (.head _)
theorem upd_tailD {h₀ h : Heap} {L d : Addr} {o o' : Obj} {y : Addr × Obj} {led l l' : Led} (u : Upd d o o' l l') (N : News h₀ L h led) (dm : Dm led) (b : Beh (d, o) [y] led) (ho : o.cls ≠ .type "tuple") : Upd d o o' (y :: l) (y :: l') := .tail (off1 N dm b ho) u
theorem updF_tailD {h₀ h : Heap} {L d : Addr} {o : Obj} {y : Addr × Obj} {led l : Led} {g : Obj → Led} (u : UpdF d o l g) (N : News h₀ L h led) (dm : Dm led) (b : Beh (d, o) [y] led) (ho : o.cls ≠ .type "tuple") : UpdF d o (y :: l) (fun o' => y :: g o') := .tail (off1 N dm b ho) u
end Mine
theorem Mine.wd46 : True := by
  (k_with "dm" => first | with_reducible assumption | exact Mine.Dm.same2 (by assumption) (by walk_at "ke") | (refine' Mine.Dm.newT ?ddW46 rfl; case ddW46 => walk_at "dm"))
  (k_with "lies" => with_reducible first | exact List.mem_cons_self | (refine' List.mem_cons_of_mem _ ?rrW47; case rrW47 => walk_at "lies") | (refine' List.mem_append_right _ ?rrW47; case rrW47 => walk_at "lies"))
  (k_with "bef" => with_reducible first | (refine' Mine.Beh.at ?rrW48; case rrW48 => walk_at "lies") | (refine' Mine.Beh.skip ?rrW48; case rrW48 => walk_at "bef") | (refine' Mine.Beh.app ?rrW48; case rrW48 => walk_at "bef"))
  trivial
local macro_rules | `(tactic| k_upd) => `(tactic| k_extra "mine k_upd")
theorem Mine.wd49 : True := by
  (k_with "mine k_upd" => (refine' Mine.upd_off ?bW49 ?NW49 ?dW49 ?bbW49 ?cW49; (case NW49 => k_asm); (case dW49 => first | with_reducible assumption | exact Mine.Dm.same2 (by assumption) (by walk_at "ke")); (case bbW49 => walk_at "bef"); (case cW49 => first | exact Mine.ncl | exact Mine.ncd | exact Mine.nci); (case bW49 => k_upd)))
  (k_with "bef one" => with_reducible first | (refine' Mine.Beh.at1 ?rrW50; case rrW50 => walk_at "lies") | (refine' Mine.Beh.skip ?rrW50; case rrW50 => walk_at "bef one") | (refine' Mine.Beh.app ?rrW50; case rrW50 => walk_at "bef one"))
  (k_with "mine k_upd" => (refine' Mine.upd_tailD ?bW51 ?NW51 ?dW51 ?bbW51 ?cW51; (case NW51 => k_asm); (case dW51 => walk_at "dm"); (case bbW51 => walk_at "bef one"); (case cW51 => first | exact Mine.ncl | exact Mine.ncd | exact Mine.nci); (case bW51 => k_upd)))
  trivial
local macro_rules | `(tactic| k_updF) => `(tactic| k_extra "mine k_updF")
theorem Mine.wd52 : True := by
  (k_with "mine k_updF" => (refine' Mine.updF_tailD ?bW52 ?NW52 ?dW52 ?bbW52 ?cW52; (case NW52 => k_asm); (case dW52 => walk_at "dm"); (case bbW52 => walk_at "bef one"); (case cW52 => first | exact Mine.ncl | exact Mine.ncd | exact Mine.nci); (case bW52 => k_updF)))
  (k_with "mine k_updF" => (refine' Mine.updF_off ?bW53 ?NW53 ?dW53 ?bbW53 ?cW53; (case NW53 => k_asm); (case dW53 => walk_at "dm"); (case bbW53 => walk_at "bef"); (case cW53 => first | exact Mine.ncl | exact Mine.ncd | exact Mine.nci); (case bW53 => k_updF)))
  trivial
namespace Mine
open PySem PySem.Calls PyProof.Rows PySem.Spec
/-- where a turn of a for-loop ends: the iterator stands as it stood -/
def TurnQ (h₀ : Heap) (L : Addr) (s₁ : Shared) (I : Addr) (io : Obj) (J : (Str → Option Value) → Led → Prop) (Q : Flow → Shared → Prop) (f : Flow) (s₂ : Shared) : Prop :=
  match f with
  | .ret v => Q (.ret v) s₂
  | .brk => Q .next s₂
  | _ => ∃ h' tk m' led', s₂ = { s₁ with heap := h', toks := tk } ∧ Fr h₀ L h' m' ∧ News h₀ L h' ((I, io) :: led') ∧ Dm ((I, io) :: led') ∧ J m' led'
theorem TurnQ.next {h₀ : Heap} {L : Addr} {s₁ : Shared} {I : Addr} {io : Obj} {J : (Str → Option Value) → Led → Prop} {Q : Flow → Shared → Prop} {h' : Heap} {tk : Nat} {m' : Str → Option Value} {led' : Led}
    (F : Fr h₀ L h' m') (N : News h₀ L h' ((I, io) :: led')) (d : Dm ((I, io) :: led')) (hj : J m' led') : TurnQ h₀ L s₁ I io J Q .next { s₁ with heap := h', toks := tk } := ⟨h', tk, m', led', rfl, F, N, d, hj⟩
/-- a new tuple, a new list: the ledger's order stands with it -/
theorem newTup9 {M : Model} {A : Around} {E : Value → Shared → Prop} {s : Shared} {h₀ : Heap} {L : Addr} {m : Str → Option Value} {news : Led} {vs : List Value} {Q : Value → Shared → Prop} (F : Fr h₀ L s.heap m) (N : News h₀ L s.heap news) (d : Dm news)
    (h : ∀ D h', Fr h₀ L h' m → News h₀ L h' ((D, ({ cls := .type "tuple", data := .seq vs.toArray } : Obj)) :: news) → Dm ((D, ({ cls := .type "tuple", data := .seq vs.toArray } : Obj)) :: news) → Q (.ref D) { s with heap := h' }) (hz : vs.length ≤ sizeLine) : wpAny M A (newTuple vs) Q E s :=
  kup_newTuple F N (fun D h' F' N' _ => h D h' F' N' (Dm.newT d rfl)) hz
theorem newLst9 {M : Model} {A : Around} {E : Value → Shared → Prop} {s : Shared} {h₀ : Heap} {L : Addr} {m : Str → Option Value} {news : Led} {vs : List Value} {Q : Value → Shared → Prop} (F : Fr h₀ L s.heap m) (N : News h₀ L s.heap news) (d : Dm news)
    (h : ∀ D h', Fr h₀ L h' m → News h₀ L h' ((D, listOf vs.toArray 0) :: news) → Dm ((D, listOf vs.toArray 0) :: news) → Q (.ref D) { s with heap := h' }) (hz : vs.length ≤ sizeLine) : wpAny M A (newList vs) Q E s :=
  newList_K F N (fun D h' F' N' l => h D h' F' N' (Dm.new d l)) hz
section
variable {prog : Program} {w : World} {A : Around} {E : Value → Shared → Prop} {s : Shared} {env : Env} {h₀ : Heap} {x : Str} {body : List Stmt} {Q : Flow → Shared → Prop}
theorem iter_at {it0 : Obj} {St : Nat → Heap → Prop} {P : Nat → Value → Prop} {fp : List Addr} {n : Nat} {ic : String} {m : Str → Option Value} {led : Led} (J : Nat → (Str → Option Value) → Led → Prop) (W : Walks prog w A s.heap.objs.size fp [s.heap.objs.size] n P St) (hI : s.heap.objs.size ∈ fp) (hL : env.locals ∉ fp)
    (hfp : ∀ b ∈ fp, b = s.heap.objs.size ∨ ∃ bo, ∀ i m led, J i m led → (b, bo) ∈ led) (hic : Value.type ic ≠ .type "tuple") (hSt : ∀ i h, St i h → ∃ io, h.get? s.heap.objs.size = some io ∧ io.cls = .type ic) (h0 : St 0 (s.heap.push it0))
    (F : Fr h₀ env.locals s.heap m) (N : News h₀ env.locals s.heap led) (dm : Dm led) (hj : J 0 m led)
    (turn : ∀ i v m₁ led₁ h tk I io, P i v → i < n → J i m₁ led₁ → Fr h₀ env.locals h (fun y => if y = x then some v else m₁ y) → News h₀ env.locals h ((I, io) :: led₁) → Dm ((I, io) :: led₁) → io.cls ≠ .type "tuple" →
      wpAny (model prog w) A (execs body env) (TurnQ h₀ env.locals { s with heap := h, toks := tk } I io (J (i + 1)) Q) E { s with heap := h, toks := tk })
    (done : ∀ m₁ led₁ h tk, J n m₁ led₁ → Fr h₀ env.locals h m₁ → News h₀ env.locals h led₁ → Dm led₁ → Q .next { s with heap := h, toks := tk }) :
    LoopAtV prog w A h₀ env x body Q E (.ref s.heap.objs.size) { s with heap := s.heap.push it0 } := by
  have hnew := next_is_new F
  refine ⟨_, _, _, n, _, _, m, led, fun i m₁ led₁ => J i m₁ led₁ ∧ Dm led₁, rfl, W, hL, ?_, ?_, h0, F.push _, (fun p hp => ⟨Heap.get?_push_of_some _ (N p hp).1, (N p hp).2⟩), ⟨hj, dm⟩, ?_, fun h' tk m' led' F' N' _ hJ => done m' led' h' tk hJ.1 F' N' hJ.2⟩
  · exact fun b hb => (List.mem_singleton.mp hb).symm ▸ hnew
  · exact fun p hp hI => absurd (Heap.lt_size (N p hp).1) ((List.mem_singleton.mp hI) ▸ Nat.lt_irrefl _)
  · rintro i v m₁ led₁ s₁ own ⟨hh', tk', rfl⟩ hin hP ⟨hJ, hD⟩ hoff hown hget hall hst F₁ N₁
    obtain ⟨io, hio, hioc⟩ := hSt _ _ hst
    have hict : io.cls ≠ .type "tuple" := hioc ▸ hic
    have Ni : News h₀ env.locals hh' ((s.heap.objs.size, io) :: led₁) := fun p hp => N₁ _ ((List.mem_cons.mp hp).elim (fun e => e ▸ List.mem_append_left _ (hall _ hI hnew _ hio)) (List.mem_append_right _))
    have Di : Dm ((s.heap.objs.size, io) :: led₁) := List.Pairwise.cons (fun b hb => .inr (.inr fun e => hoff b hb (by rw [← e]; exact .head _))) hD
    refine wpAny_mono (turn i v m₁ led₁ hh' tk' _ io hP hin hJ F₁ Ni Di hict) (fun f s₂ p => ?_) fun _ _ e => e
    have fin : (∃ h' tk m' led', s₂ = { ({ s with heap := hh', toks := tk' } : Shared) with heap := h', toks := tk } ∧ Fr h₀ env.locals h' m' ∧ News h₀ env.locals h' ((s.heap.objs.size, io) :: led') ∧ Dm ((s.heap.objs.size, io) :: led') ∧ J (i + 1) m' led') →
        LoopStepU h₀ env.locals [s.heap.objs.size] own (fun m₁ led₁ => J (i + 1) m₁ led₁ ∧ Dm led₁) { s with heap := hh', toks := tk' } .next s₂ := by
      rintro ⟨h', tk, m', led', e, F', N', D', hJ'⟩
      refine ⟨rfl, h', tk, m', led', e, F', fun p hp => ?_, fun p hp hI => off_of N' (.head _) hict (fun q hq => .tail _ hq) D'.cons_of.1 p hp (List.mem_singleton.mp hI), hJ', D'.cons_of.2⟩
      refine (List.mem_append.mp hp).elim (fun hp => ?_) (fun hp => N' _ (.tail _ hp))
      have h2 := hget p hp
      refine (hfp _ (hown p hp)).elim (fun h1 => ?_) fun ⟨bo, hb⟩ => ?_
      · have : p = (s.heap.objs.size, io) := Prod.ext h1 (Option.some.inj ((h1 ▸ h2).symm.trans hio))
        exact this ▸ N' _ (.head _)
      · have : p = (p.1, bo) := Prod.ext rfl (Option.some.inj (h2.symm.trans (N₁ _ (List.mem_append_right _ (hb _ _ _ hJ))).1))
        rw [this]; exact N' _ (.tail _ (hb _ _ _ hJ'))
    cases f with
    | ret v => exact p
    | brk => exact p
    | next => exact fin p
    | cont => exact fin p
theorem iter_led {l : Addr} {lo : Obj} {vs : List Value} {n : Nat} {m : Str → Option Value} {led : Led} (J : Nat → (Str → Option Value) → Led → Prop) (hh : A.handled = none) (F : Fr h₀ env.locals s.heap m) (N : News h₀ env.locals s.heap led) (dm : Dm led)
    (hlo : (l, lo) ∈ led) (hvs : lo = listOf vs.toArray n ∨ lo = tupO vs n) (hj : J 0 m led) (hJl : ∀ i m led, J i m led → (l, lo) ∈ led)
    (turn : ∀ i v m₁ led₁ h tk I io, vs[i]? = some v → J i m₁ led₁ → Fr h₀ env.locals h (fun y => if y = x then some v else m₁ y) → News h₀ env.locals h ((I, io) :: led₁) → Dm ((I, io) :: led₁) → io.cls ≠ .type "tuple" →
      wpAny (model prog w) A (execs body env) (TurnQ h₀ env.locals { s with heap := h, toks := tk } I io (J (i + 1)) Q) E { s with heap := h, toks := tk })
    (done : ∀ m₁ led₁ h tk, J vs.length m₁ led₁ → Fr h₀ env.locals h m₁ → News h₀ env.locals h led₁ → Dm led₁ → Q .next { s with heap := h, toks := tk }) :
    wpAny (model prog w) A (pyIter (.ref l)) (fun it s₂ => LoopAtV prog w A h₀ env x body Q E it s₂) E s := by
  have hne : l ≠ s.heap.objs.size := Nat.ne_of_lt (Heap.lt_size (N _ hlo).1)
  have main : ∀ (ic : String) (it0 : Obj) (St : Nat → Heap → Prop) (W : Walks prog w A s.heap.objs.size [s.heap.objs.size, l] [s.heap.objs.size] vs.length (fun i v => vs[i]? = some v) St)
      (hic : Value.type ic ≠ .type "tuple") (hSt : ∀ i h, St i h → ∃ io, h.get? s.heap.objs.size = some io ∧ io.cls = .type ic) (h0 : St 0 (s.heap.push it0)),
      LoopAtV prog w A h₀ env x body Q E (.ref s.heap.objs.size) { s with heap := s.heap.push it0 } := fun ic it0 St W hic hSt h0 =>
    iter_at J W (.head _) (fun hm => (List.mem_cons.mp hm).elim (fun e => absurd F.ns.lt (e ▸ Nat.lt_irrefl _)) fun hm => (N _ hlo).2.1 (List.mem_singleton.mp hm).symm)
      (fun b hb => (List.mem_cons.mp hb).imp id fun hb => ⟨lo, fun i m led hJ => by rw [List.mem_singleton.mp hb]; exact hJl i m led hJ⟩) hic hSt h0 F N dm hj (fun i v m₁ led₁ h tk I io hP _ => turn i v m₁ led₁ h tk I io hP) done
  refine hvs.elim (fun e => ?_) fun e => ?_
  · have hls : s.heap.IsList l vs.toArray := ⟨_, (N _ hlo).1, by rw [e], n, by rw [e]⟩
    refine wpAny_pyIter_list hls ?_
    have W := Walks.list (prog := prog) (w := w) hh s.heap.objs.size l hne vs.toArray
    simp only [List.size_toArray, List.getElem?_toArray] at W
    exact main "list_iterator" _ _ W (by decide) (fun i h st => st.1.imp fun o q => ⟨q.1, q.2.1⟩) ⟨⟨_, Heap.get?_push_size _ rfl, rfl, rfl⟩, hls.at fun o e => Heap.get?_push_of_some _ e⟩
  · have hls : s.heap.IsTuple l vs.toArray := ⟨_, (N _ hlo).1, by rw [e], n, by rw [e]⟩
    refine wpAny_pyIter_tuple hls ?_
    have W := Walks.tuple (prog := prog) (w := w) hh s.heap.objs.size l hne vs.toArray
    simp only [List.size_toArray, List.getElem?_toArray] at W
    exact main "tuple_iterator" _ _ W (by decide) (fun i h st => st.1.imp fun o q => ⟨q.1, q.2.1⟩) ⟨⟨_, Heap.get?_push_size _ rfl, rfl, rfl⟩, hls.at fun o e => Heap.get?_push_of_some _ e⟩
end
end Mine
open Mine
local macro_rules | `(tactic| walk_at "pyIter ref") => `(tactic| k_extra "mine iter")
namespace Mine
open PySem PySem.Calls PyProof.Rows PySem.Spec
def StrsV (vs : List Value) : Prop := ∀ v ∈ vs, ∃ x t, v = .str x t
def RowsV (vs : List Value) (J : Led) : Prop := ∀ v ∈ vs, ∃ a x k t t' n, v = .ref a ∧ (a, tupO [.str x t, .int k t'] n) ∈ J
def fixed_atoms_R_T (R : Led) (K7 : Value → Led → Prop) : Prop := ∀ a, ∀ vs, StrsV vs → vs.length = 29 → K7 (.ref a) ((a, tupO vs 0) :: R)
def fixed_atoms_R (R : Led) (r : Value) (led' : Led) : Prop := ∀ K7 : Value → Led → Prop, fixed_atoms_R_T R K7 → K7 r led'
theorem fixed_atoms_R_mk {R : Led} {r : Value} {led' : Led} : ∀ a, ∀ vs, StrsV vs → vs.length = 29 → led' = (a, tupO vs 0) :: R → r = .ref a → fixed_atoms_R R r led' := by
  intro _ _ a0 a1 a2 a3
  subst a2
  subst a3
  exact fun K7 k7 => k7 _ _ a0 a1
theorem fixed_atoms_R_pt {R : Led} (K7 : Value → Led → Prop) (k7 : fixed_atoms_R_T R K7) (r : Value) (led' : Led) (h7 : fixed_atoms_R R r led') : K7 r led' := h7 K7 k7
theorem fixed_atoms_tells {w : World} {R : Led} : Tells w 60 [] 1 R (fixed_atoms_R R) NoErr := by
  refine hidE ?_; simp (disch := k_dflt (
    refine hidW ?_
    intro dp un gd cn cs L a ccd cl outer A₀ base h₀ p loose mean mg mb m s Q E B F X N T hk dm hd hu hret hthr
    (revert X; k_fill; intro X; refine wpAny_call ?_; k_dflt ktr_enter; refine genT ?_; intro tk9)
    walk_at "st9"
    (refine' hret _ _ _ _ ?F46 ?N46 ?D ?P; (case F46 => k_asm); (case N46 => k_asm))
    (case D => exact Dm.newT dm rfl)
    (case P => exact fixed_atoms_R_mk _ ([_, _, _, _, _, _, _, _, _, _, _, _, _, _, _, _, _, _, _, _, _, _, _, _, _, _, _, _, _]) (by unfold StrsV; repeat' (first | exact List.forall_mem_nil _ | refine List.forall_mem_cons.mpr ⟨⟨_, _, rfl⟩, ?_⟩)) rfl rfl rfl))) only [↓hidL]
/-- a row of a text and a number, as it is written; as it lies -/
inductive RowsE : List Expr → List (Str × Int) → Prop
  | nil : RowsE [] []
  | cons {x i k k' n p p' pos es rs} : RowsE es rs → RowsE (.Tuple [.Constant (.str x) k p, .Constant (.int i) k' p'] n pos :: es) ((x, i) :: rs)
inductive RowsR (J : Led) : List Value → List (Str × Int) → Prop
  | nil : RowsR J [] []
  | cons {a x i t t' n vs rs} : (a, tupO [.str x t, .int i t'] n) ∈ J → RowsR J vs rs → RowsR J (.ref a :: vs) ((x, i) :: rs)
theorem RowsR.len {J : Led} {vs : List Value} {rs : List (Str × Int)} (h : RowsR J vs rs) : vs.length = rs.length := by
  induction h with
  | nil => rfl
  | cons _ _ ih => exact congrArg Nat.succ ih
theorem RowsR.v {J : Led} {vs : List Value} {rs : List (Str × Int)} (h : RowsR J vs rs) : RowsV vs J := by
  induction h with
  | nil => exact fun _ h => nomatch h
  | cons m _ ih => exact List.forall_mem_cons.mpr ⟨⟨_, _, _, _, _, _, rfl, m⟩, ih⟩
theorem rows_go {M : Model} {A : Around} {E : Value → Shared → Prop} {h₀ : Heap} {L : Addr} {m : Str → Option Value} {env : Env} {pos : Pos} {R : Led} : ∀ {es : List Expr} {rs : List (Str × Int)}, RowsE es rs → ∀ {s : Shared} {J : Led} {Q : List Value → Shared → Prop}, Fr h₀ L s.heap m → News h₀ L s.heap (J ++ R) → Dm (J ++ R) → TupL J →
    (∀ vs h' tk J', Fr h₀ L h' m → News h₀ L h' (J' ++ R) → Dm (J' ++ R) → TupL J' → (∀ p ∈ J, p ∈ J') → RowsR J' vs rs → Q vs { s with heap := h', toks := tk }) → wpAny M A (spliced (backTo pos (starEach es env))) Q E s := by
  intro es rs r
  induction r with
  | nil => intro s J Q F N D hJ k; exact args_nil (k [] s.heap s.toks J F N D hJ (fun _ h => h) .nil)
  | cons r ih =>
    intro s J Q F N D hJ k
    refine args_cons (Tuple_ (args_cons (Constant_str (args_cons (wpAny_Constant_int (args_nil ?_))))))
    refine newTup9 F N D (fun a h' F' N' D' => ?_) (by rw [sizeLine_eq]; exact Nat.le_of_ble_eq_true rfl)
    refine ih (J := _ :: J) F' N' D' (tupL_cons rfl hJ) fun vs h2 tk J' F2 N2 D2 hJ2 i hr => ?_
    exact k _ h2 tk J' F2 N2 D2 hJ2 (fun p hp => i p (.tail _ hp)) (.cons (i _ (.head _)) hr)
theorem rows_go1 {M : Model} {A : Around} {E : Value → Shared → Prop} {h₀ : Heap} {L : Addr} {m : Str → Option Value} {env : Env} {pos : Pos} {R : Led} {es : List Expr} {rs : List (Str × Int)} {s : Shared} {Q : List Value → Shared → Prop} (H : (Fr h₀ L s.heap m ∧ News h₀ L s.heap R ∧ Dm R ∧ RowsE es rs) ∧
    (∀ vs h' tk J', Fr h₀ L h' m → News h₀ L h' (J' ++ R) → Dm (J' ++ R) → TupL J' → RowsR J' vs rs → Q vs { s with heap := h', toks := tk })) : wpAny M A (spliced (backTo pos (starEach es env))) Q E s :=
  rows_go H.1.2.2.2 (J := []) H.1.1 H.1.2.1 H.1.2.2.1 tupL_nil fun vs h' tk J' F N D hJ _ hr => H.2 vs h' tk J' F N D hJ hr
def fixed_functors_R_T (R : Led) (K7 : Value → Led → Prop) : Prop := ∀ a, ∀ v, ∀ vs, ∀ J, RowsV (v :: vs) J → ((∃ b t t' n, v = .ref b ∧ (b, tupO [.str (Str.ofString ".") t, .int 2 t'] n) ∈ J)) → vs.length = 31 → TupL J → K7 (.ref a) ((a, tupO (v :: vs) 0) :: (J ++ R))
def fixed_functors_R (R : Led) (r : Value) (led' : Led) : Prop := ∀ K7 : Value → Led → Prop, fixed_functors_R_T R K7 → K7 r led'
theorem fixed_functors_R_mk {R : Led} {r : Value} {led' : Led} : ∀ a, ∀ v, ∀ vs, ∀ J, RowsV (v :: vs) J → ((∃ b t t' n, v = .ref b ∧ (b, tupO [.str (Str.ofString ".") t, .int 2 t'] n) ∈ J)) → vs.length = 31 → TupL J → led' = (a, tupO (v :: vs) 0) :: (J ++ R) → r = .ref a → fixed_functors_R R r led' := by
  intro _ _ _ _ a0 a1 a2 a3 a4 a5
  subst a4
  subst a5
  exact fun K7 k7 => k7 _ _ _ _ a0 a1 a2 a3
theorem fixed_functors_R_pt {R : Led} (K7 : Value → Led → Prop) (k7 : fixed_functors_R_T R K7) (r : Value) (led' : Led) (h7 : fixed_functors_R R r led') : K7 r led' := h7 K7 k7
theorem fixed_functors_tells {w : World} {R : Led} : Tells w 67 [] 1 R (fixed_functors_R R) NoErr := by
  refine hidE ?_; simp (disch := k_dflt (
    refine hidW ?_
    intro dp un gd cn cs L a ccd cl outer A₀ base h₀ p loose mean mg mb m s Q E B F X N T hk dm hd hu hret hthr
    rename Option (List Code) => gd4Z; (k_with "ar2" => guard_hyp gd4Z; first | with_reducible exact op51 hl)
    k_with "eval Tuple" => guard_hyp gd4Z; (refine Hold.of ?_)
    (revert X; k_fill; intro X; refine wpAny_call ?_; k_dflt ktr_enter; refine genT ?_; intro tk9)
    walk_at "st9"
    refine Hold.mk ?_
    refine Tuple_ ?_
    refine' rows_go1 ?H8
    case H8 =>
    apply And.intro
    · apply And.intro
      · k_asm
      · apply And.intro
        · k_asm
        · apply And.intro
          · exact dm
          · repeat' (first | exact RowsE.nil | apply RowsE.cons)
    intro vs h' tk J' F' N' D' hJ' hr
    have hl := hr.len
    have hv := hr.v
    cases hr with
    | cons hm hr' =>
    rename Option (List Code) => gd4Z
    walk_at "st9"
    (refine' hret _ _ _ _ ?F9 ?N9 ?D9 ?P9; (case F9 => k_asm); (case N9 => k_asm); (case D9 => exact Dm.newT D' rfl); (case P9 => exact fixed_functors_R_mk _ _ _ J' hv (⟨_, _, _, _, rfl, hm⟩) (Nat.succ.inj hl) hJ' rfl rfl)))) only [↓hidL]
end Mine
namespace Mine
open PySem PySem.Calls PyProof.Rows PySem.Spec
theorem sym_start {w : World} {h₀ h : Heap} {L a sy dsy tx an fn fnn : Addr} {to ao fo : Obj} {h1 h2 h3 h4 : Int} {k1 k2 k3 k4 : Tok} {n1 n2 : Nat} {R : Led}
    (N : News h₀ L h ((a, to) :: (fnn, fo) :: (fn, listOf #[] n2) :: (an, ao) :: (tx, listOf #[] n1) :: (sy, instObj 154 dsy) ::
      (dsy, dictOf [⟨h1, .str "texts" k1, .ref tx⟩, ⟨h2, .str "atom_numbers" k2, .ref an⟩, ⟨h3, .str "functors" k3, .ref fn⟩, ⟨h4, .str "functor_numbers" k4, .ref fnn⟩] 4) :: R))
    (hao : ao.IsDictOf (strKind PySem.Challenge.rw_sa0166_01.row.prog w) []) (hfo : fo.IsDictOf (intKind PySem.Challenge.rw_sa0166_01.row.prog w) [])
    (l : @LT.lt Nat _ dsy sy ∧ @LT.lt Nat _ sy tx ∧ @LT.lt Nat _ tx an ∧ @LT.lt Nat _ an fn ∧ @LT.lt Nat _ fn fnn) (lo1 : (an == sysModules) = false) (lo2 : (fnn == sysModules) = false)
    (d : Dm ((a, to) :: (fnn, fo) :: (fn, listOf #[] n2) :: (an, ao) :: (tx, listOf #[] n1) :: (sy, instObj 154 dsy) ::
      (dsy, dictOf [⟨h1, .str "texts" k1, .ref tx⟩, ⟨h2, .str "atom_numbers" k2, .ref an⟩, ⟨h3, .str "functors" k3, .ref fn⟩, ⟨h4, .str "functor_numbers" k4, .ref fnn⟩] 4) :: R)) :
    ∃ S, SymAt w sy ⟨[], []⟩ S ∧ News h₀ L h ((a, to) :: (R ++ S)) ∧ Dm ((a, to) :: (R ++ S)) := by
  obtain ⟨n3, e3⟩ := nil_dict hfo
  obtain ⟨n4, e4⟩ := nil_dict hao
  subst e3
  have p : List.Perm ((a, to) :: (fnn, dictOf [] n3) :: (fn, listOf #[] n2) :: (an, ao) :: (tx, listOf #[] n1) :: (sy, instObj 154 dsy) ::
      (dsy, dictOf [⟨h1, .str "texts" k1, .ref tx⟩, ⟨h2, .str "atom_numbers" k2, .ref an⟩, ⟨h3, .str "functors" k3, .ref fn⟩, ⟨h4, .str "functor_numbers" k4, .ref fnn⟩] 4) :: R)
      ((a, to) :: ([(sy, instObj 154 dsy), (dsy, dictOf [⟨h1, .str "texts" k1, .ref tx⟩, ⟨h2, .str "atom_numbers" k2, .ref an⟩, ⟨h3, .str "functors" k3, .ref fn⟩, ⟨h4, .str "functor_numbers" k4, .ref fnn⟩] 4), (tx, listOf #[] n1), (an, ao), (fn, listOf #[] n2), (fnn, dictOf [] n3)] ++ R)) := by
    refine List.Perm.cons _ (List.Perm.append_right R (l₁ := [(fnn, dictOf [] n3), (fn, listOf #[] n2), (an, ao), (tx, listOf #[] n1), (sy, instObj 154 dsy), (dsy, _)]) ?_)
    refine (List.reverse_perm _).symm.trans ?_
    simp only [List.reverse_cons, List.reverse_nil, List.nil_append, List.cons_append]
    exact List.Perm.swap _ _ _
  refine ⟨_, ⟨dsy, tx, an, fn, fnn, h1, h2, h3, h4, k1, k2, k3, k4, [], n1, ao, [], n2, [], n3, [], rfl, l, lo1, lo2, ⟨rfl, fun i x hx => by simp at hx⟩, ⟨[], hao, rfl, fun i kv hk => by simp at hk⟩,
    ⟨rfl, rfl, fun i x hx => by simp at hx, fun x hx => by simp at hx⟩, by rw [e4], tupL_nil, List.nodup_nil, List.nodup_nil⟩, ?_, ?_⟩
  · exact News.perm (p.trans (List.Perm.cons _ List.perm_append_comm)) N
  · exact Dm.perm (p.trans (List.Perm.cons _ List.perm_append_comm)) d
def symbols_R_T (w : World) (R : Led) (K7 : Value → Led → Prop) : Prop := ∀ sy, ∀ σ, ∀ S, ∀ J, SymAt w sy σ S → σ.Dot → σ.Small 100 → TupL J → K7 (.ref sy) (S ++ (J ++ R))
def symbols_R (w : World) (R : Led) (r : Value) (led' : Led) : Prop := ∀ K7 : Value → Led → Prop, symbols_R_T w R K7 → K7 r led'
theorem symbols_R_mk {w : World} {R : Led} {r : Value} {led' : Led} : ∀ sy, ∀ σ, ∀ S, ∀ J, SymAt w sy σ S → σ.Dot → σ.Small 100 → TupL J → led' = S ++ (J ++ R) → r = .ref sy → symbols_R w R r led' := by
  intro _ _ _ _ a0 a1 a2 a3 a4 a5
  subst a4
  subst a5
  exact fun K7 k7 => k7 _ _ _ _ a0 a1 a2 a3
theorem symbols_R_pt {w : World} {R : Led} (K7 : Value → Led → Prop) (k7 : symbols_R_T w R K7) (r : Value) (led' : Led) (h7 : symbols_R w R r led') : K7 r led' := h7 K7 k7
theorem symbols_tells {w : World} {R : Led} : Tells w 154 [] 6 R (symbols_R w R) NoErr := by
  refine hidE ?_; simp (disch := k_dflt (
    refine hidW ?_
    intro dp un gd cn cs L a ccd cl outer A₀ base h₀ p loose mean mg mb m s Q E B F X N T hk dm hd hu hret hthr
    rename Option (List Code) => gd5Z; (k_with "ar2" => guard_hyp gd5Z; first | with_reducible exact om112 hil | with_reducible exact om113 hkl2 | with_reducible exact om115 hil | with_reducible exact op40 hu)
    k_with "mine call" => guard_hyp gd5Z; first
      | k_dflt (refine' go0n (e := fixed_atoms_R_pt) fixed_atoms_tells ?B50 ?F50 ?X50 ?N50 ?T50 ?hk50 ?d50 ?hd50 ?hu50 ?_; (case B50 => k_asm); (case F50 => k_asm); (case X50 => k_asm); (case N50 => k_asm); (case T50 => k_asm); (case hk50 => first | exact rfl | assumption); (case d50 => walk_at "dmx"); (case hd50 => walk_at "hdx"); (case hu50 => walk_at "hux"); intro ka kvs hkS hkl h9 tk9 F9 N9 D9; (try k_sweep); (try dsimp only))
      | k_dflt (refine' go0n (e := fixed_functors_R_pt) fixed_functors_tells ?B51 ?F51 ?X51 ?N51 ?T51 ?hk51 ?d51 ?hd51 ?hu51 ?_; (case B51 => k_asm); (case F51 => k_asm); (case X51 => k_asm); (case N51 => k_asm); (case T51 => k_asm); (case hk51 => first | exact rfl | assumption); (case d51 => walk_at "dmx"); (case hd51 => walk_at "hdx"); (case hu51 => walk_at "hux"); intro kb kv kws kJ hkR hkD hkl2 hkT h9 tk9 F9 N9 D9; (try k_sweep); (try dsimp only))
      | k_dflt (refine' go1n (e := atom_R_pt) (atom_tells (by assumption) ?z) ?B52 ?F52 ?X52 ?N52 ?T52 ?hk52 ?d52 ?r52 ?hd52 ?hu52 ?_; (case B52 => k_asm); (case F52 => k_asm); (case X52 => k_asm); (case N52 => k_asm); (case T52 => k_asm); (case hk52 => first | exact rfl | assumption); (case d52 => walk_at "dmx"); (case r52 => walk_at "rot"); (case hd52 => walk_at "hdx"); (case hu52 => walk_at "hux"); (case z => exact Sy.Small.mono (by assumption) (by walk_at "ar")); intro S9 u9 hS9 h9 tk9 F9 N9 D9; replace N9 := News.perm List.perm_append_comm N9; replace D9 := Dm.perm List.perm_append_comm D9; (try simp only [List.cons_append, List.nil_append, List.append_nil, List.append_assoc] at N9 D9); (try k_sweep); (try dsimp only))
      | k_dflt (refine' go1n (e := func_R_pt) (func_tells (by assumption) ?zz) ?B54 ?F54 ?X54 ?N54 ?T54 ?hk54 ?d54 ?r54 ?hd54 ?hu54 ?_; (case B54 => k_asm); (case F54 => k_asm); (case X54 => k_asm); (case N54 => k_asm); (case T54 => k_asm); (case hk54 => first | exact rfl | assumption); (case d54 => walk_at "dmx"); (case r54 => walk_at "rot"); (case hd54 => walk_at "hdx"); (case hu54 => walk_at "hux"); (case zz => exact Sy.Small.mono (by assumption) (by walk_at "ar")); intro S9 u9 hS9 h9 tk9 F9 N9 D9; replace N9 := News.perm List.perm_append_comm N9; replace D9 := Dm.perm List.perm_append_comm D9; (try simp only [List.cons_append, List.nil_append, List.append_nil, List.append_assoc] at N9 D9); (try k_sweep); (try dsimp only))
    revert X
    k_fill
    intro X
    k_dflt (refine' call_cls ?k1 ?k2 ?k3 ?k4 ?k5 ?k6 ?_; (case k1 => k_asm); (case k2 => k_asm); (case k3 => k_asm); (case k4 => k_is); (case k5 => k_is); (case k6 => k_is); k_whole; intro x' d' h' F' N' l1 l2)
    have dm1 := Dm.newN2 N' l1 l2 dm (by first | rfl | assumption)
    k_lt l1
    k_lt2 l2
    k_sweep
    k_dflt ktr_enter
    walk_at "st9"
    (refine Gen fun gG9 gK9 => ?_; obtain ⟨S0, hS0, N0, D0⟩ := sym_start (by assumption) (by assumption) (by assumption) (by refine ⟨?_, ?_, ?_, ?_, ?_⟩ <;> walk_at "ar") (by assumption) (by assumption) (by assumption); refine gK9 ?_; clear gK9 gG9)
    k_sweep
    k_dflt (refine' iter_led (J := fun i m led => m (Str.ofString "self") = some (.ref x') ∧ ∃ σ S, SymAt w x' σ S ∧ σ.funs = [] ∧ σ.Small i ∧ led = (ka, tupO kvs 0) :: (R ++ S)) ?hh71 ?F71 ?N71 D0 ?hlo71 (.inr rfl) ?hj71 ?hJl71 ?turn71 ?done71)
    (case hh71 => exact rfl)
    (case F71 => k_asm)
    (case N71 => k_asm)
    (case hlo71 => exact .head _)
    (case hj71 => exact ⟨by first | rfl | assumption, _, S0, hS0, rfl, ⟨Nat.le_refl _, Nat.le_refl _⟩, rfl⟩)
    (case hJl71 => intro i m led hJ; (refine Gen fun gG9 gK9 => ?_; obtain ⟨_, _, _, _, _, _, e⟩ := hJ; refine gK9 ?_; clear gK9 gG9); rw [e]; exact .head _)
    · intro i v m₁ led₁ h tk I io hv hJ F1 N1 D1 hio; refine genK fun K9 hK9 => ?_
      (refine Gen fun gG9 gK9 => ?_; obtain ⟨hm, σ, S, hS, hf, hsm, rfl⟩ := hJ; refine gK9 ?_; clear gK9 gG9)
      (refine Gen fun gG9 gK9 => ?_; obtain ⟨x, t, rfl⟩ := hkS v (List.mem_of_getElem? hv); refine gK9 ?_; clear gK9 gG9)
      have hil : i < 29 := by rw [← hkl]; exact (List.getElem?_eq_some_iff.mp hv).1
      refine sym_inst hS ?_; intro _ _ _ _ _ _ _ _ _ _ _ _ _ hi1 hi2
      k_sweep
      walk_at "st9"
      (refine hK9 _ _ ?_; refine' TurnQ.next ?F56 ?N56 ?D56 ?J; (case F56 => k_asm); (case N56 => k_asm); (case D56 => k_asm))
      (case J => exact ⟨hm, _, _, by assumption, by rw [atom_funs]; exact hf, small_atom hsm, rfl⟩)
    · intro m₁ led₁ h tk hJ F1 N1 D1
      (refine Gen fun gG9 gK9 => ?_; obtain ⟨hm, σ, S, hS, hf, hsm, rfl⟩ := hJ; refine gK9 ?_; clear gK9 gG9)
      k_sweep
      walk_at "st9"
      k_dflt (refine' iter_led (J := fun i m led => m (Str.ofString "self") = some (.ref x') ∧ ∃ σ S, SymAt w x' σ S ∧ (i = 0 → σ.funs = []) ∧ (0 < i → σ.Dot) ∧ σ.Small (29 + i) ∧ led = (kb, tupO (kv :: kws) 0) :: (kJ ++ (ka, tupO kvs 0) :: (R ++ S))) ?hh72 ?F72 ?N72 (by assumption) ?hlo72 (.inr rfl) ?hj72 ?hJl72 ?turn72 ?done72)
      (case hh72 => exact rfl)
      (case F72 => k_asm)
      (case N72 => k_asm)
      (case hlo72 => exact .head _)
      (case hj72 => exact ⟨hm, _, _, hS, fun _ => hf, fun h => absurd h (Nat.lt_irrefl _), by rw [hkl] at hsm; exact hsm, rfl⟩)
      (case hJl72 => intro i m led hJ; (refine Gen fun gG9 gK9 => ?_; obtain ⟨_, _, _, _, _, _, _, e⟩ := hJ; refine gK9 ?_; clear gK9 gG9); rw [e]; exact .head _)
      · intro i v m₁ led₁ h tk I io hv hJ F1 N1 D1 hio; refine genK fun K9 hK9 => ?_
        (refine Gen fun gG9 gK9 => ?_; obtain ⟨hm, σ, S, hS, hf0, hf1, hsm, rfl⟩ := hJ; refine gK9 ?_; clear gK9 gG9)
        have hil : i < 32 := by have := (List.getElem?_eq_some_iff.mp hv).1; simp only [List.length_cons, hkl2] at this; walk_at "ar"
        obtain ⟨ra, rx, rk, t, t', rn, rfl, hrm, hr0⟩ : ∃ a x k t t' n, v = .ref a ∧ (a, tupO [.str x t, .int k t'] n) ∈ kJ ∧ (i = 0 → x = Str.ofString "." ∧ k = 2) := by
          by_cases hi : i = 0
          · subst hi
            (refine Gen fun gG9 gK9 => ?_; obtain ⟨b, t, t', n, e, hb⟩ := hkD; refine gK9 ?_; clear gK9 gG9)
            refine ⟨b, _, _, t, t', n, ?_, hb, fun _ => ⟨rfl, rfl⟩⟩
            rw [List.getElem?_cons_zero] at hv
            rw [← Option.some.inj hv, e]
          · (refine Gen fun gG9 gK9 => ?_; obtain ⟨a, x, k, t, t', n, e, hb⟩ := hkR v (List.mem_of_getElem? hv); refine gK9 ?_; clear gK9 gG9)
            exact ⟨a, x, k, t, t', n, e, hb, fun h => absurd h hi⟩
        refine sym_inst hS ?_; intro _ _ _ _ _ _ _ _ _ _ _ _ _ hi1 hi2
        k_sweep
        walk_at "st9"
        (refine hK9 _ _ ?_; refine' TurnQ.next ?F57 ?N57 ?D57 ?J; (case F57 => k_asm); (case N57 => k_asm); (case D57 => k_asm))
        refine ⟨hm, _, _, by assumption, fun h => absurd h (Nat.succ_ne_zero _), fun _ => ?_, small_func hsm, rfl⟩
        by_cases hi : i = 0
        · (refine Gen fun gG9 gK9 => ?_; obtain ⟨rfl, rfl⟩ := hr0 hi; refine gK9 ?_; clear gK9 gG9)
          exact dot_first (hf0 hi)
        · exact dot_func (hf1 (Nat.pos_of_ne_zero hi))
      · intro m₁ led₁ h tk hJ F1 N1 D1
        (refine Gen fun gG9 gK9 => ?_; obtain ⟨hm, σ, S, hS, hf0, hf1, hsm, rfl⟩ := hJ; refine gK9 ?_; clear gK9 gG9)
        k_sweep
        walk_at "st9"
        have e : (kb, tupO (kv :: kws) 0) :: (kJ ++ (ka, tupO kvs 0) :: (R ++ S)) = (((kb, tupO (kv :: kws) 0) :: (kJ ++ [(ka, tupO kvs 0)])) ++ R) ++ S := by simp
        have p8 := List.perm_append_comm (l₁ := ((kb, tupO (kv :: kws) 0) :: (kJ ++ [(ka, tupO kvs 0)])) ++ R) (l₂ := S)
        rw [← e] at p8
        refine' hret _ _ _ _ ?F8 (News.perm p8 ?N8) (Dm.perm p8 D1) ?P8
        (case N8 => k_asm)
        (case F8 => k_asm)
        (case P8 => exact symbols_R_mk x' σ S _ hS (hf1 (by rw [List.length_cons]; walk_at "ar")) (hsm.mono (by rw [List.length_cons, hkl2]; walk_at "ar")) (tupL_cons rfl (tupL_app hkT (tupL_cons rfl tupL_nil))) rfl rfl))) only [↓hidL]
end Mine
namespace Mine
open PySem PySem.Calls PyProof.Rows PySem.Spec
inductive PoolAt (pl sl : Addr) (P : Led) : Prop
  | mk : ∀ (q : Int), ∀ (i : Int), ∀ (c : Int), ∀ (t1 : Tok), ∀ (t2 : Tok), ∀ (t3 : Tok), ∀ (n : Nat), ∀ (n2 : Nat), ∀ (vs : List Value), ∀ (ns : List Int), P = [(pl, listOf #[.ref sl, .int q t1, .int i t2, .int c t3] n), (sl, listOf vs.toArray n2)] → -1 ≤ i → IntsAre vs ns → vs.length ≤ 63 → PoolAt pl sl P
def draw_R_T (pl sl : Addr) (R : Led) (lim : Int) (K7 : Value → Led → Prop) : Prop := ∀ P', ∀ r', ∀ u, PoolAt pl sl P' → 0 ≤ r' → r' < lim → K7 (.int r' u) (P' ++ R)
def draw_R (pl sl : Addr) (R : Led) (lim : Int) (r : Value) (led' : Led) : Prop := ∀ K7 : Value → Led → Prop, draw_R_T pl sl R lim K7 → K7 r led'
theorem draw_R_mk {pl sl : Addr} {R : Led} {lim : Int} {r : Value} {led' : Led} : ∀ P', ∀ r', ∀ u, PoolAt pl sl P' → led' = P' ++ R → r = .int r' u → 0 ≤ r' → r' < lim → draw_R pl sl R lim r led' := by
  intro _ _ _ a0 a1 a2 a3 a4
  subst a1
  subst a2
  exact fun K7 k7 => k7 _ _ _ a0 a3 a4
theorem draw_R_pt {pl sl : Addr} {R : Led} {lim : Int} (K7 : Value → Led → Prop) (k7 : draw_R_T pl sl R lim K7) (r : Value) (led' : Led) (h7 : draw_R pl sl R lim r led') : K7 r led' := h7 K7 k7
theorem draw_tells {w : World} {pl sl : Addr} {P R : Led} {lim : Int} {t4 : Tok} (hP : PoolAt pl sl P) (hl : 0 < lim) (hl2 : lim < 1000) :
    Tells w 799 [.ref pl, .int lim t4] 1 (P ++ R) (draw_R pl sl R lim) NoErr := by
  refine hidE ?_; simp (disch := k_dflt (
    refine hidW ?_
    intro dp un gd cn cs L a ccd cl outer A₀ base h₀ p loose mean mg mb m s Q E B F X N T hk dm hd hu hret hthr
    rename Option (List Code) => gd6Z; (k_with "ar2" => guard_hyp gd6Z; first | with_reducible exact op13 hl hl2 | with_reducible exact op14 hi | with_reducible exact op22 hl | with_reducible exact op36 hlen (by assumption) | with_reducible exact op38 hlen | with_reducible exact op39 (by assumption) (by assumption) | with_reducible exact op54 hi)
    (refine Gen fun gG9 gK9 => ?_; obtain ⟨q, i, c, t1, t2, t3, n, n2, vs, ns, rfl, hi, hv, hlen⟩ := hP; refine gK9 ?_; clear gK9 gG9)
    dsimp only [List.cons_append, List.nil_append] at N dm
    have hps := ap_list (dm.cons_of.1 _ (.head _)) ncl ncl
    have hR1 := off_of (R := R) N (.head _) ncl (fun q hq => .tail _ (.tail _ hq)) (fun q hq => dm.cons_of.1 _ (.tail _ hq))
    (revert X; k_fill; intro X; refine wpAny_call ?_; k_dflt ktr_enter; walk_at "loc"; refine genT ?_; intro tk9)
    walk_at "st9"
    all_goals ((refine' hret _ _ _ _ ?F60 ?N60 ?D ?P; (case F60 => k_asm); (case N60 => k_asm)); (case D => exact dm.same (by first | rfl | assumption)); (case P => exact draw_R_mk ([_, _]) _ _ (⟨_, _, _, _, _, _, _, _, _, _, rfl, by walk_at "ar", hv, hlen⟩) rfl rfl (Int.fmod_nonneg_of_pos _ hl) (Int.fmod_lt_of_pos _ hl))))) only [↓hidL]
end Mine
namespace Mine
open PySem PySem.Calls PyProof.Rows PySem.Spec
/-- the terms that the law builds -/
inductive Tm where
  | at (n : Int)
  | var
  | num (i : Int)
  | s1 (f : Int) (a : Tm)
  | s2 (f : Int) (a b : Tm)
def Tm.Leaf : Tm → Prop
  | .num i => -(2 ^ 66) ≤ i ∧ i ≤ 2 ^ 66
  | .at n => 0 ≤ n
  | .var => True
  | _ => False
inductive TmV (l : Led) : Value → Tm → Prop
  | at {a n t t' k} : (a, tupO [.str (Str.ofString "a") t, .int n t'] k) ∈ l → TmV l (.ref a) (.at n)
  | var {a t t' k} : (a, tupO [.str (Str.ofString "v") t, .int 0 t'] k) ∈ l → TmV l (.ref a) .var
  | num {a i t t' k} : (a, tupO [.str (Str.ofString "i") t, .int i t'] k) ∈ l → TmV l (.ref a) (.num i)
  | s1 {a b f t t' k k' v x} : (a, tupO [.str (Str.ofString "s") t, .int f t', .ref b] k) ∈ l → (b, tupO [v] k') ∈ l → TmV l v x → TmV l (.ref a) (.s1 f x)
  | s2 {a b f t t' k k' v v' x y} : (a, tupO [.str (Str.ofString "s") t, .int f t', .ref b] k) ∈ l → (b, tupO [v, v'] k') ∈ l → TmV l v x → TmV l v' y → TmV l (.ref a) (.s2 f x y)
def TmF (l : Led) (v : Value) : Tm → Prop
  | .at n => ∀ G : Prop, (∀ a t t' k, v = .ref a → (a, tupO [.str (Str.ofString "a") t, .int n t'] k) ∈ l → G) → G
  | .var => ∀ G : Prop, (∀ a t t' k, v = .ref a → (a, tupO [.str (Str.ofString "v") t, .int 0 t'] k) ∈ l → G) → G
  | .num n => ∀ G : Prop, (∀ a t t' k, v = .ref a → (a, tupO [.str (Str.ofString "i") t, .int n t'] k) ∈ l → G) → G
  | .s1 f x => ∀ G : Prop, (∀ a b t t' k k' u, v = .ref a → (a, tupO [.str (Str.ofString "s") t, .int f t', .ref b] k) ∈ l → (b, tupO [u] k') ∈ l → TmV l u x → G) → G
  | .s2 f x y => ∀ G : Prop, (∀ a b t t' k k' u u', v = .ref a → (a, tupO [.str (Str.ofString "s") t, .int f t', .ref b] k) ∈ l → (b, tupO [u, u'] k') ∈ l → TmV l u x → TmV l u' y → G) → G
theorem TmV.fn {l : Led} {v : Value} {t : Tm} (h : TmV l v t) : TmF l v t := by
  induction h with
  | «at» m => exact fun _ K => K _ _ _ _ rfl m
  | var m => exact fun _ K => K _ _ _ _ rfl m
  | num m => exact fun _ K => K _ _ _ _ rfl m
  | s1 m m' h _ => exact fun _ K => K _ _ _ _ _ _ _ rfl m m' h
  | s2 m m' h h' _ _ => exact fun _ K => K _ _ _ _ _ _ _ _ rfl m m' h h'
theorem TmV.mono {l l' : Led} {v : Value} {x : Tm} (h : TmV l v x) (i : ∀ p ∈ l, p ∈ l') : TmV l' v x := by
  induction h with
  | «at» m => exact .at (i _ m)
  | var m => exact .var (i _ m)
  | num m => exact .num (i _ m)
  | s1 m m' _ ih => exact .s1 (i _ m) (i _ m') ih
  | s2 m m' _ _ ih ih' => exact .s2 (i _ m) (i _ m') ih ih'
/-- the tables grow: what stood stands -/
def Sy.Le (σ σ' : Sy) : Prop := (∃ r, σ'.texts = σ.texts ++ r) ∧ ∃ r, σ'.funs = σ.funs ++ r
theorem Sy.Le.refl (σ : Sy) : σ.Le σ := ⟨⟨[], by simp⟩, ⟨[], by simp⟩⟩
theorem Sy.Le.trans {a b c : Sy} (h : a.Le b) (h' : b.Le c) : a.Le c := by
  obtain ⟨⟨r, e⟩, ⟨q, f⟩⟩ := h
  obtain ⟨⟨r', e'⟩, ⟨q', f'⟩⟩ := h'
  exact ⟨⟨r ++ r', by rw [e', e, List.append_assoc]⟩, ⟨q ++ q', by rw [f', f, List.append_assoc]⟩⟩
theorem le_atom {σ : Sy} {x : Str} : σ.Le (σ.atom x) := by
  unfold Sy.atom
  split
  · exact .refl _
  · exact ⟨⟨_, rfl⟩, ⟨[], by simp⟩⟩
theorem le_functor {σ : Sy} {f : Int × Int} : σ.Le (σ.functor f) := by
  unfold Sy.functor
  split
  · exact .refl _
  · exact ⟨⟨[], by simp⟩, ⟨_, rfl⟩⟩
theorem le_func {σ : Sy} {x : Str} {k : Int} : σ.Le (σ.func x k) := le_atom.trans le_functor
theorem pow_b {e : Int} (h : e < 66) : 1 ≤ (2 : Int) ^ e.toNat ∧ (2 : Int) ^ e.toNat ≤ 36893488147419103232 := by
  have h1 : (2 : Nat) ^ e.toNat ≤ 2 ^ 65 := Nat.pow_le_pow_right (by decide) (by (first | with_reducible exact om147 h1 h2 | omega))
  have h2 : 0 < (2 : Nat) ^ e.toNat := Nat.pow_pos (by decide)
  have h3 : (2 : Int) ^ e.toNat = ((2 ^ e.toNat : Nat) : Int) := by simp
  rw [h3]; (first | with_reducible exact om147 h1 h2 | omega)
def leaf_R_T (w : World) (pl sl sy : Addr) (σ : Sy) (R : Led) (n : Nat) (K7 : Value → Led → Prop) : Prop := ∀ (r : Value), ∀ P', ∀ S', ∀ σ', ∀ J, ∀ t, PoolAt pl sl P' → SymAt w sy σ' S' → σ.Le σ' → σ'.Dot → σ'.Small (n + 1) → TupL J → TmV J r t → t.Leaf → K7 (r) (P' ++ (S' ++ (J ++ R)))
def leaf_R (w : World) (pl sl sy : Addr) (σ : Sy) (R : Led) (n : Nat) (r : Value) (led' : Led) : Prop := ∀ K7 : Value → Led → Prop, leaf_R_T w pl sl sy σ R n K7 → K7 r led'
theorem leaf_R_mk {w : World} {pl sl sy : Addr} {σ : Sy} {R : Led} {n : Nat} {r : Value} {led' : Led} : ∀ P', ∀ S', ∀ σ', ∀ J, ∀ t, PoolAt pl sl P' → SymAt w sy σ' S' → σ.Le σ' → σ'.Dot → σ'.Small (n + 1) → TupL J → TmV J r t → t.Leaf → led' = P' ++ (S' ++ (J ++ R)) → leaf_R w pl sl sy σ R n r led' := by
  intro _ _ _ _ _ a0 a1 a2 a3 a4 a5 a6 a7 a8
  subst a8
  exact fun K7 k7 => k7 _ _ _ _ _ _ a0 a1 a2 a3 a4 a5 a6 a7
theorem leaf_R_pt {w : World} {pl sl sy : Addr} {σ : Sy} {R : Led} {n : Nat} (K7 : Value → Led → Prop) (k7 : leaf_R_T w pl sl sy σ R n K7) (r : Value) (led' : Led) (h7 : leaf_R w pl sl sy σ R n r led') : K7 r led' := h7 K7 k7
theorem leaf_tells {w : World} {pl sl sy : Addr} {σ : Sy} {P S R : Led} {n : Nat} (hP : PoolAt pl sl P) (hS : SymAt w sy σ S) (hd0 : σ.Dot) (hz : σ.Small n) (hn : n < 10000) :
    Tells w 806 [.ref pl, .ref sy] 3 (P ++ (S ++ R)) (leaf_R w pl sl sy σ R n) NoErr := by
  refine hidE ?_; simp (disch := k_dflt (
    refine hidW ?_
    intro dp un gd cn cs L a ccd cl outer A₀ base h₀ p loose mean mg mb m s Q E B F X N T hk dm hd hu hret hthr
    rename Option (List Code) => gd7Z; (k_with "ar2" => guard_hyp gd7Z; first | with_reducible exact om142 hr2 | with_reducible exact om146 hn | with_reducible exact om71 | with_reducible exact om149 hr1 | with_reducible exact op32 hr2 hpb.1 | with_reducible exact op56 hr2 hpb.2 | with_reducible exact op58 hr1 hpb.1 | with_reducible exact op76 hr1 hpb.2 | with_reducible exact op78 hr2)
    k_with "mine call" => guard_hyp gd7Z; first
      | k_dflt (refine' go1n (e := draw_R_pt) (draw_tells (by assumption) (by decide) (by decide)) ?B62 ?F62 ?X62 ?N62 ?T62 ?hk62 ?d62 ?r62 ?hd62 ?hu62 ?_; (case B62 => k_asm); (case F62 => k_asm); (case X62 => k_asm); (case N62 => k_asm); (case T62 => k_asm); (case hk62 => first | exact rfl | assumption); (case d62 => walk_at "dmx"); (case r62 => walk_at "rot"); (case hd62 => walk_at "hdx"); (case hu62 => walk_at "hux"); intro P9 r9' u9 hP9 hr1 hr2 h9 tk9 F9 N9 D9; replace N9 := News.perm List.perm_append_comm N9; replace D9 := Dm.perm List.perm_append_comm D9; (try simp only [List.cons_append, List.nil_append, List.append_nil, List.append_assoc] at N9 D9); (try k_sweep); (try dsimp only))
      | k_dflt (refine' go1n (e := atom_R_pt) (atom_tells (by assumption) ?z) ?B64 ?F64 ?X64 ?N64 ?T64 ?hk64 ?d64 ?r64 ?hd64 ?hu64 ?_; (case B64 => k_asm); (case F64 => k_asm); (case X64 => k_asm); (case N64 => k_asm); (case T64 => k_asm); (case hk64 => first | exact rfl | assumption); (case d64 => walk_at "dmx"); (case r64 => walk_at "rot"); (case hd64 => walk_at "hdx"); (case hu64 => walk_at "hux"); (case z => exact Sy.Small.mono (by assumption) (by walk_at "ar")); intro S9 u9 hS9 h9 tk9 F9 N9 D9; replace N9 := News.perm List.perm_append_comm N9; replace D9 := Dm.perm List.perm_append_comm D9; (try simp only [List.cons_append, List.nil_append, List.append_nil, List.append_assoc] at N9 D9); (try k_sweep); (try dsimp only))
    refine sym_inst hS ?_; intro _ _ _ _ _ _ _ _ _ _ _ _ _ hi1 hi2
    (revert X; k_fill; intro X; refine wpAny_call ?_; k_dflt ktr_enter; walk_at "loc"; refine genT ?_; intro tk9)
    walk_at "st9"
    · refine' out2 (P := P9) (P2 := S9) hret ?F67 ?N67 ?D67 ?r67 ?rr67 ?P; (case F67 => k_asm); (case N67 => k_asm); (case D67 => walk_at "dmx"); (case r67 => walk_at "rot"); (case rr67 => walk_at "rot")
      (case P => exact leaf_R_mk P9 S9 _ ([_]) (.at _) (by assumption) (by assumption) le_atom (dot_atom hd0) (small_atom hz) (tupL_cons rfl tupL_nil) (.at (.head _)) (Int.natCast_nonneg _) rfl)
    · refine' out2 (P := P9) (P2 := S) hret ?F68 ?N68 ?D68 ?r68 ?rr68 ?P; (case F68 => k_asm); (case N68 => k_asm); (case D68 => walk_at "dmx"); (case r68 => walk_at "rot"); (case rr68 => walk_at "rot")
      (case P => exact leaf_R_mk P9 S _ ([_]) (.var) (by assumption) hS (.refl _) hd0 (hz.mono (by walk_at "ar")) (tupL_cons rfl tupL_nil) (.var (.head _)) trivial rfl)
    · refine' out2 (P := P9) (P2 := S) hret ?F69 ?N69 ?D69 ?r69 ?rr69 ?P; (case F69 => k_asm); (case N69 => k_asm); (case D69 => walk_at "dmx"); (case r69 => walk_at "rot"); (case rr69 => walk_at "rot")
      (case P => exact leaf_R_mk P9 S _ ([_]) (.num _) (by assumption) hS (.refl _) hd0 (hz.mono (by walk_at "ar")) (tupL_cons rfl tupL_nil) (.num (.head _)) (by constructor <;> walk_at "ar") rfl)
    all_goals (
      refine' out2 (P := P9) (P2 := S) hret ?F70 ?N70 ?D70 ?r70 ?rr70 ?P; (case F70 => k_asm); (case N70 => k_asm); (case D70 => walk_at "dmx"); (case r70 => walk_at "rot"); (case rr70 => walk_at "rot")
      have hpb := pow_b (by assumption)
      (case P => exact leaf_R_mk P9 S _ ([_]) (.num _) (by assumption) hS (.refl _) hd0 (hz.mono (by walk_at "ar")) (tupL_cons rfl tupL_nil) (.num (.head _)) (by constructor <;> walk_at "ar") rfl)))) only [↓hidL]
end Mine
namespace Mine
open PySem PySem.Calls PyProof.Rows PySem.Spec
noncomputable def uWords : List Str := [Str.ofString "-", Str.ofString "abs", Str.ofString "sign", Str.ofString "\\", Str.ofString "msb", Str.ofString "succ", Str.ofString "floor"]
noncomputable def bWords : List Str := [Str.ofString "+", Str.ofString "*", Str.ofString "//", Str.ofString "-", Str.ofString "mod", Str.ofString "rem", Str.ofString "div", Str.ofString "gcd", Str.ofString "<<", Str.ofString ">>", Str.ofString "^", Str.ofString "max", Str.ofString "min", Str.ofString "xor", Str.ofString "/\\", Str.ofString "\\/"]
def FunOk (σ : Sy) (f k : Int) (ws : List Str) : Prop := 0 < f ∧ f < 100000 ∧ ∃ a x, 0 ≤ a ∧ a < 100000 ∧ σ.funs[f.toNat]? = some (a, k) ∧ σ.texts[a.toNat]? = some x ∧ x ∈ ws
def Tm.Good (σ : Sy) : Tm → Prop
  | .s1 f a => FunOk σ f 1 uWords ∧ a.Good σ
  | .s2 f a b => FunOk σ f 2 bWords ∧ a.Good σ ∧ b.Good σ
  | .num i => -(2 ^ 66) ≤ i ∧ i ≤ 2 ^ 66
  | .at n => 0 ≤ n
  | .var => True
noncomputable def Tm.size : Tm → Nat
  | .s1 _ a => a.size + 1
  | .s2 _ a b => a.size + b.size + 1
  | _ => 1
inductive Step where
  | leaf (t : Tm)
  | app (f : Int) (ps : List Int)
noncomputable def Tm.post : Tm → Nat → List Step
  | .s1 f a, b => a.post b ++ [.app f [(b : Int) + a.size - 1]]
  | .s2 f x y, b => x.post b ++ y.post (b + x.size) ++ [.app f [(b : Int) + x.size - 1, (b : Int) + x.size + y.size - 1]]
  | t, _ => [.leaf t]
theorem Tm.post_length : ∀ (t : Tm) (b : Nat), (t.post b).length = t.size
  | .s1 f a, b => by show (a.post b ++ [_]).length = a.size + 1; rw [List.length_append, Tm.post_length a]; rfl
  | .s2 f x y, b => by show (x.post b ++ y.post _ ++ [_]).length = x.size + y.size + 1; rw [List.length_append, List.length_append, Tm.post_length x, Tm.post_length y]; rfl
  | .at _, _ => rfl
  | .var, _ => rfl
  | .num _, _ => rfl
inductive StepV (l : Led) : Value → Step → Prop
  | leaf {v t} : TmV l v t → t.Leaf → StepV l v (.leaf t)
  | app1 {a b f t k p u n} : (a, tupO [.int f t, .ref b] k) ∈ l → (b, listOf #[.int p u] n) ∈ l → StepV l (.ref a) (.app f [p])
  | app2 {a b f t k p u q u' n} : (a, tupO [.int f t, .ref b] k) ∈ l → (b, listOf #[.int p u, .int q u'] n) ∈ l → StepV l (.ref a) (.app f [p, q])
theorem StepV.mono {l l' : Led} {v : Value} {x : Step} (h : StepV l v x) (i : ∀ p ∈ l, p ∈ l') : StepV l' v x := by
  cases h with
  | leaf h hl => exact .leaf (h.mono i) hl
  | app1 m m' => exact .app1 (i _ m) (i _ m')
  | app2 m m' => exact .app2 (i _ m) (i _ m')
def StepsV (l : Led) (vs : List Value) (ss : List Step) : Prop := vs.length = ss.length ∧ ∀ (i : Nat) (v : Value) (x : Step), vs[i]? = some v → ss[i]? = some x → StepV l v x
theorem StepsV.mono {l l' : Led} {vs : List Value} {ss : List Step} (h : StepsV l vs ss) (i : ∀ p ∈ l, p ∈ l') : StepsV l' vs ss := ⟨h.1, fun j v x a b => (h.2 j v x a b).mono i⟩
theorem StepsV.app {l : Led} {vs vs' : List Value} {ss ss' : List Step} (h : StepsV l vs ss) (h' : StepsV l vs' ss') : StepsV l (vs ++ vs') (ss ++ ss') := by
  refine ⟨by simp [h.1, h'.1], fun i v x a b => ?_⟩
  rcases Nat.lt_or_ge i vs.length with hi | hi
  · rw [List.getElem?_append_left hi] at a
    rw [List.getElem?_append_left (by rw [← h.1]; exact hi)] at b
    exact h.2 i v x a b
  · rw [List.getElem?_append_right hi] at a
    rw [List.getElem?_append_right (by rw [← h.1]; exact hi), ← h.1] at b
    exact h'.2 _ v x a b
theorem StepsV.one {l : Led} {v : Value} {x : Step} (h : StepV l v x) : StepsV l [v] [x] := by
  refine ⟨rfl, fun i v' x' a b => ?_⟩
  cases i with
  | zero => simp at a b; subst a b; exact h
  | succ i => simp at a
theorem FunOk.mono {σ σ' : Sy} {f k : Int} {ws : List Str} (h : FunOk σ f k ws) (l : σ.Le σ') : FunOk σ' f k ws := by
  obtain ⟨h0, h1, a, x, ha, ha', hf, ht, hx⟩ := h
  obtain ⟨⟨r, e⟩, ⟨q, e'⟩⟩ := l
  refine ⟨h0, h1, a, x, ha, ha', ?_, ?_, hx⟩
  · rw [e', List.getElem?_append_left (List.getElem?_eq_some_iff.mp hf).1]; exact hf
  · rw [e, List.getElem?_append_left (List.getElem?_eq_some_iff.mp ht).1]; exact ht
theorem Tm.Good.mono {σ σ' : Sy} (l : σ.Le σ') : ∀ {t : Tm}, t.Good σ → t.Good σ'
  | .s1 _ _, h => ⟨h.1.mono l, Tm.Good.mono l h.2⟩
  | .s2 _ _ _, h => ⟨h.1.mono l, Tm.Good.mono l h.2.1, Tm.Good.mono l h.2.2⟩
  | .num _, h => h
  | .at _, h => h
  | .var, _ => trivial
theorem Tm.good_leaf {σ : Sy} : ∀ {t : Tm}, t.Leaf → t.Good σ
  | .num _, h => h
  | .at _, h => h
  | .var, _ => trivial
theorem Tm.leaf_post : ∀ {t : Tm}, t.Leaf → ∀ b, t.post b = [.leaf t]
  | .num _, _, _ => rfl
  | .at _, _, _ => rfl
  | .var, _, _ => rfl
theorem Tm.leaf_size : ∀ {t : Tm}, t.Leaf → t.size = 1
  | .num _, _ => rfl
  | .at _, _ => rfl
  | .var, _ => rfl
theorem func_ok {σ : Sy} {x : Str} {k : Int} {ws : List Str} {n : Nat} (hd : σ.Dot) (hx : x ∈ ws) (hne : x ≠ Str.ofString ".") (hz : σ.Small n) (hn : n < 90000) : FunOk (σ.func x k) (σ.funcN x k) k ws := by
  have hD : (σ.func x k).Dot := dot_func hd
  have ht : (σ.func x k).texts = (σ.atom x).texts := functor_texts
  have hm : (σ.anum x, k) ∈ (σ.func x k).funs := by
    unfold Sy.func Sy.functor
    split
    · assumption
    · simp
  have hfn : σ.funcN x k = ((σ.func x k).funs.idxOf (σ.anum x, k) : Int) := by
    unfold Sy.funcN Sy.fnum Sy.func Sy.functor
    split
    · rfl
    · rename_i h
      rw [List.idxOf_append, if_neg h, List.idxOf_eq_length h]; simp
  have hl := List.idxOf_lt_length_of_mem hm
  have hsm := small_func (x := x) (k := k) hz
  have hal : σ.texts.idxOf x < (σ.atom x).texts.length := by
    unfold Sy.atom
    split
    · rename_i h; exact List.idxOf_lt_length_of_mem h
    · rename_i h; rw [List.idxOf_eq_length h]; simp
  have hax : (σ.func x k).texts[σ.texts.idxOf x]? = some x := by
    rw [ht]
    unfold Sy.atom
    split
    · rename_i h; rw [List.getElem?_eq_getElem (List.idxOf_lt_length_of_mem h), List.getElem_idxOf]
    · rename_i h; rw [List.idxOf_eq_length h]; simp
  have hget : (σ.func x k).funs[(σ.func x k).funs.idxOf (σ.anum x, k)]? = some (σ.anum x, k) := by
    rw [List.getElem?_eq_getElem hl, List.getElem_idxOf]
  have hpos : (σ.func x k).funs.idxOf (σ.anum x, k) ≠ 0 := by
    intro e
    rw [e, hD.1] at hget
    have e1 := (Prod.mk.inj (Option.some.inj hget)).1
    have e2 : (σ.func x k).texts.idxOf (Str.ofString ".") = σ.texts.idxOf x := by unfold Sy.anum at e1; (first | with_reducible exact om164 hn hal hb1 | with_reducible exact om130 e1 | with_reducible exact om164 hn hl hb2 | with_reducible exact om165 hpos | omega)
    have h1 : (σ.func x k).texts[(σ.func x k).texts.idxOf (Str.ofString ".")]? = some (Str.ofString ".") := by
      rw [List.getElem?_eq_getElem (List.idxOf_lt_length_of_mem hD.2), List.getElem_idxOf]
    rw [e2, hax] at h1
    exact hne (Option.some.inj h1)
  have hb1 := hsm.1
  have hb2 := hsm.2
  rw [ht] at hb1
  refine ⟨by rw [hfn]; (first | with_reducible exact om164 hn hal hb1 | with_reducible exact om130 e1 | with_reducible exact om164 hn hl hb2 | with_reducible exact om165 hpos | omega), by rw [hfn]; (first | with_reducible exact om164 hn hal hb1 | with_reducible exact om130 e1 | with_reducible exact om164 hn hl hb2 | with_reducible exact om165 hpos | omega), σ.anum x, x, Int.natCast_nonneg _, by unfold Sy.anum; (first | with_reducible exact om164 hn hal hb1 | with_reducible exact om130 e1 | with_reducible exact om164 hn hl hb2 | with_reducible exact om165 hpos | omega), ?_, ?_, hx⟩
  · rw [hfn]; simpa using hget
  · unfold Sy.anum; simpa using hax
theorem out3R {h₀ h' : Heap} {L : Addr} {m : Str → Option Value} {s : Shared} {Q : Value → Shared → Prop} {led P P2 P3 R R1 R2 R3 J : Led} {Ret : Value → Led → Prop} {r : Value} {tk' : Nat} (hret : ∀ r led' h' tk', Fr h₀ L h' m → News h₀ L h' led' → Dm led' → Ret r led' → Q r { s with heap := h', toks := tk' })
    (F : Fr h₀ L h' m) (N : News h₀ L h' led) (d : Dm led) (r1 : Rot P led R1) (r2 : Rot P2 R1 R2) (r3 : Rot P3 R2 R3) (r4 : Rot R R3 J) (hR : Ret r (P ++ (P2 ++ (P3 ++ (J ++ R))))) : Q r { s with heap := h', toks := tk' } :=
  have p : led.Perm (P ++ (P2 ++ (P3 ++ (J ++ R)))) := (Rot.three r1 r2 r3).trans (List.Perm.append_left P (List.Perm.append_left P2 (List.Perm.append_left P3 (r4.perm.trans List.perm_append_comm))))
  hret _ _ _ _ F (News.perm p N) (Dm.perm p d) hR
end Mine
open Mine
theorem Mine.wd54 : True := by
  (k_with "menu" => with_reducible first | exact List.forall_mem_nil _ | (refine' List.forall_mem_cons.mpr ⟨⟨_, _, rfl, ?maW54⟩, ?mbW54⟩; (case maW54 => walk_at "word"); case mbW54 => walk_at "menu"))
  (k_with "word" => with_reducible first | exact List.mem_cons_self | (refine' List.mem_cons_of_mem _ ?mcW55; case mcW55 => walk_at "word"))
  (k_with "W subscriptTail Name Call" => (k_here; (with_reducible show wpAny _ _ (subscriptTail _ _ (Value.ref _) (Value.int _ _)) _ _ _); (with_unfolding_all first
  | (refine' Mine.item_menu [Str.ofString "-", Str.ofString "abs", Str.ofString "sign", Str.ofString "\\", Str.ofString "msb", Str.ofString "succ", Str.ofString "floor"] ?NW56 ?hW56 ?wW56 ?loW56 ?hiW56 ?zW56 ?_ ?sW56; (case NW56 => k_asm); (case hW56 => k_mem); (case wW56 => walk_at "menu"); (case loW56 => assumption); (case hiW56 => (simp only [List.length_cons, List.length_nil]; walk_at "ar")); (case zW56 => (simp only [List.length_cons, List.length_nil]; walk_at "ar")); (case sW56 => with_unfolding_all rfl); k_whole; intro xZ9 tZ9 hxZ9; (try (rename News _ _ _ _ => nNZ9; rename Dm _ => dDZ9; replace nNZ9 := News.tl nNZ9; replace dDZ9 := (Dm.cons_of dDZ9).2)))
  | (refine' Mine.item_menu [Str.ofString "+", Str.ofString "*", Str.ofString "//", Str.ofString "-", Str.ofString "mod", Str.ofString "rem", Str.ofString "div", Str.ofString "gcd", Str.ofString "<<", Str.ofString ">>", Str.ofString "^", Str.ofString "max", Str.ofString "min", Str.ofString "xor", Str.ofString "/\\", Str.ofString "\\/"] ?NW56 ?hW56 ?wW56 ?loW56 ?hiW56 ?zW56 ?_ ?sW56; (case NW56 => k_asm); (case hW56 => k_mem); (case wW56 => walk_at "menu"); (case loW56 => assumption); (case hiW56 => (simp only [List.length_cons, List.length_nil]; walk_at "ar")); (case zW56 => (simp only [List.length_cons, List.length_nil]; walk_at "ar")); (case sW56 => with_unfolding_all rfl); k_whole; intro xZ9 tZ9 hxZ9; (try (rename News _ _ _ _ => nNZ9; rename Dm _ => dDZ9; replace nNZ9 := News.tl nNZ9; replace dDZ9 := (Dm.cons_of dDZ9).2))))))
  (k_with "W newTuple" => (k_here; k_dflt (refine' Mine.newTup9 ?FW57 ?NW57 ?dW57 ?_ ?zW57; (case FW57 => k_asm); (case NW57 => k_asm); (case dW57 => walk_at "dm"); (case zW57 => kmk_size)); intro DZ9 hZ9 FZ9 NZ9 d1; (try k_sweep)))
  (k_with "W newList" => (k_here; k_dflt (refine' Mine.newLst9 ?FW58 ?NW58 ?dW58 ?_ ?zW58; (case FW58 => k_asm); (case NW58 => k_asm); (case dW58 => walk_at "dm"); (case zW58 => size_fits); k_whole); intro DZ9 hZ9 FZ9 NZ9 d1; (try k_sweep)))
  trivial
namespace Mine
open PySem PySem.Calls PyProof.Rows PySem.Spec Builtin Builtin.ObjectAttr
noncomputable abbrev excB : List Value := [.type "Exception", .type "BaseException", .type "object"]
/-- the new error, before __init__ -/
noncomputable abbrev exc0 (t : Addr) : Obj := { cls := .ref 51, data := .fields #[.ref t, .none, .none, .none, .bool false, .none] }
noncomputable abbrev excObj (dx t : Addr) : Obj := { cls := .ref 51, dict := some dx, data := .fields #[.ref t, .none, .none, .none, .bool false, .none] }
theorem pe_init (w : World) : findIn (mk.heap_1 w.params) (.ref 51) "__init__" = some (some (.ref 48)) := by kernel_rfl
theorem pe_fun (w : World) : typeIn (mk.heap_1 w.params) (.ref 48) = some (.type "function") := by kernel_rfl
inductive PEcls (h : Heap) : Prop
  | mk : ∀ bm, ∀ N, ∀ nm, ∀ q, ∀ bs, ∀ hdct, ∀ sn, ∀ sub, ∀ ab, ∀ col, ∀ dd, ∀ k0, ∀ k1, ∀ k2, ∀ k3, ∀ k5, h.get? 51 = some (excClassObj nm q 51 N bs bm hdct sn sub ab col dd k0 k1 k2 k3 k5 "Exception.__new__") → OwnTail h excB bm → PEcls h
theorem pe_cls {w : World} {h : Heap} (X : (mk.heap_1 w.params).In h) : PEcls h :=
  PEcls.mk _ _ _ _ _ _ _ _ _ _ _ _ _ _ _ _ (X 51 (excClassObj _ _ 51 _ _ _ _ _ _ _ _ _ _ _ _ _ _ "Exception.__new__") rfl) (tail_of_in X (by kernel_rfl))
section
variable {w : World} {A : Around} {R : Result → Shared → Prop} {h : Heap} {g : Array GenState} {d : Drawn} {t : Nat} {os : OsState} {v : Value}
theorem make_pe (X : (mk.heap_1 w.params).In h)
    (hq : codeAny (model PySem.Challenge.rw_sa0166_01.row.prog w) (A.under (.builtin "type.__call__" ⟨[.ref 51, v], []⟩)) (.call (.ref 48) ⟨[.ref (h.objs.size + 1), v], []⟩) (InitBack (h.objs.size + 1) R) ⟨(h.push { cls := .type "tuple", data := .seq [v].toArray }).push (exc0 h.objs.size), g, d, t, os⟩) :
    codeAny (model PySem.Challenge.rw_sa0166_01.row.prog w) A (.call (.ref 51) ⟨[v], []⟩) R ⟨h, g, d, t, os⟩ := by
  refine hidE ?_; simp (disch := k_dflt (
    refine hidW ?_
    obtain ⟨bm, N, nm, q, bs, hdct, sn, sub, ab, col, dd, k0, k1, k2, k3, k5, hC, T⟩ := pe_cls X
    have F := PySem.F.excBase_Exception
    have f1 := tc_lookup
    have f2 := tc_bind (.ref 51)
    have hT : (⟨h, g, d, t, os⟩ : Shared).TypeIs (.ref 51) "type" := ⟨_, hC, rfl⟩
    refine codeAny_of_tree ?_
    show wpAny _ _ (callAny (.ref 51) _) _ _ _
    repeat (any_goals (first | assumption | with_reducible refine wpAny_loadPart_at hC ?_ | wp_step))
    refine ⟨rfl, ?_⟩
    refine codeAny_call_builtin_at (Code.quiet_builtin _ (by decide +kernel)) entry_typeCall (wpAny_check_type_call_sub hC ?_)
    repeat (first | with_reducible refine wpAny_loadPart_at hC ?_ | with_reducible refine wpAny_madeBy_exc hC ?_ | wp_step)
    refine codeAny_call_builtin_code (Code.quiet_builtin _ F.quiet) (wpAny_check_new_subT F T hC ?_)
    refine codeAny_exc_new_subT F T hC ?_ (by rw [sizeLine_eq]; show 1 ≤ _; decide)
    show wpAny _ _ _ _ _ ⟨(h.push { cls := .type "tuple", data := .seq [v].toArray }).push { cls := .ref 51, data := .fields #[.ref h.objs.size, .none, .none, .none, .bool false, .none] }, g, d, t, os⟩
    have kp : ∀ b o, h.get? b = some o → ((h.push { cls := .type "tuple", data := .seq [v].toArray }).push (exc0 h.objs.size)).get? b = some o := fun b o e => Heap.get?_push_of_some _ (Heap.get?_push_of_some _ e)
    have hC₁ := kp _ _ hC
    have hget : ((h.push { cls := .type "tuple", data := .seq [v].toArray }).push (exc0 h.objs.size)).get? (h.objs.size + 1) = some { cls := .ref 51, data := .fields #[.ref h.objs.size, .none, .none, .none, .bool false, .none] } := by heap_get
    have hcC : (Value.ref 51 :: bm).contains (.ref 51) = true := by simp
    unfold isInstance
    repeat (first | with_reducible refine wpAny_loadPart_at hget ?_ | (with_reducible refine wpAny_isSubtype_exc hC₁ ?_; rw [hcC]) | wp_step)
    have X₁ : (mk.heap_1 w.params).In ((h.push { cls := .type "tuple", data := .seq [v].toArray }).push (exc0 h.objs.size)) := fun b o e => kp b o (X b o e)
    show wpAny _ _ (typeLookup (.ref 51) _) _ _ _
    refine (looks_findIn X₁ (pe_init w)).here ?_
    refine wpAny_holding (wpAny_bind ((bind_fn X₁ _ (pe_fun w)).here ?_))
    refine wpAny_bind (wpAny_call (codeAny_mono hq fun r s' z => ?_))
    rcases r with e | (v | _ | _ | _) <;> first | exact z | exact z.elim | skip
    obtain ⟨rfl, z⟩ := z
    exact wpAny_pure (wpAny_pure z))) only [↓hidL]
end
theorem pe_sa (w : World) : findIn (mk.heap_1 w.params) (.ref 51) "__setattr__" = some (some (.builtin "object.__setattr__")) := by kernel_rfl
theorem pe_ball (w : World) : findIn (mk.heap_1 w.params) (.ref 51) "ball" = some none := by kernel_rfl
theorem pe_mro (w : World) : ((clsIn (mk.heap_1 w.params) 51).any fun cd => cd.mro == [.ref 51, .ref 31, .type "Exception", .type "BaseException", .type "object"] && cd.hasDict && !cd.hasDel) = true := by kernel_rfl
theorem pe_dat (w : World) : ∃ cd, clsIn (mk.heap_1 w.params) 51 = some cd ∧ cd.mro = [.ref 51, .ref 31, .type "Exception", .type "BaseException", .type "object"] ∧ cd.hasDict = true ∧ cd.hasDel = false := by
  obtain ⟨cd, hc, h⟩ := any_some (pe_mro w)
  simp only [Bool.and_eq_true, beq_iff_eq, Bool.not_eq_true'] at h
  exact ⟨cd, hc, h.1.1, h.1.2, h.2⟩
section
variable {w : World} {A : Around} {R : Result → Shared → Prop} {s : Shared} {h₀ : Heap} {L e t : Addr} {m : Str → Option Value} {v : Value} {tk : Tok} {l : Led} {Q : Unit → Shared → Prop} {E : Value → Shared → Prop}
noncomputable abbrev ballD (hs : Int) (k : Tok) (v : Value) : Obj := dictOf [⟨hs, .str "ball" k, v⟩] 1
theorem set_code (F : Fr h₀ L s.heap m) (N : News h₀ L s.heap ((e, exc0 t) :: l)) (X : (mk.heap_1 w.params).In s.heap) (hl : ∀ q ∈ l, q.1 ≠ e)
    (h : ∀ dx hs k h' tk', Fr h₀ L h' m → News h₀ L h' ((dx, ballD hs k v) :: (e, excObj dx t) :: l) → (∀ q ∈ (e, excObj dx t) :: l, q.1 < dx) → R (.ok (.ret .none)) { s with heap := h', toks := tk' }) :
    codeAny (model PySem.Challenge.rw_sa0166_01.row.prog w) A (.call (.builtin "object.__setattr__") ⟨[.ref e, .str "ball" tk, v], []⟩) R s := by
  have SF := PySem.F.store_object
  obtain ⟨cd, hc, hmro, hdict, hdel⟩ := pe_dat w
  have hx := (N _ (.head _)).1
  have ty : Looks (model PySem.Challenge.rw_sa0166_01.row.prog w) s.heap (typeOf (.ref e)) (.ref 51) := (Looks.ld hx).andThen .now
  have sub : Looks (model PySem.Challenge.rw_sa0166_01.row.prog w) s.heap (isInstance (.ref e) (.type "object")) true := ty.andThen (looks_mroIn X (by unfold mroIn; rw [hc, Option.bind_some, hmro]; rfl))
  refine codeAny_call_builtin SF.slot.plain SF.entry (@check_slot (model PySem.Challenge.rw_sa0166_01.row.prog w) _ _ s "object.__setattr__" "object" "__setattr__" (.ref e) [.str "ball" tk, v] [] _ SF.kind SF.split sub (SF.args (.ref e) (.str "ball" tk) v) ?_)
  have hm : Looks (model PySem.Challenge.rw_sa0166_01.row.prog w) s.heap (mroOf (.ref 51)) cd.mro := (looks_clsIn X hc).andThen .now
  rw [osa_eq, refuse_eq]
  refine wpAny_bind (wpAny_bind (ty.here (wpAny_bind (hm.here ?_))))
  rw [hmro, refuseLoop_ref, refuseLoop_ref, PySem.F.store_Exception.passes]
  refine wpAny_pure (wpAny_bind (ty.here (wpAny_bind ((looks_findIn X (pe_ball w)).here (wpAny_bind ?_)))))
  have L3 : Looks (model PySem.Challenge.rw_sa0166_01.row.prog w) s.heap (storeTaker? none) none := .now
  refine L3.here ?_
  have F1 := F.push emptyDict
  have N1 := N.push F emptyDict
  have hlt : ∀ q ∈ (e, exc0 t) :: l, @LT.lt Nat _ q.1 s.heap.objs.size := fun p hp => Heap.lt_size (N p hp).1
  obtain ⟨F2, N2⟩ := news_upd (f := fun o => { o with dict := some s.heap.objs.size }) (pre := [(s.heap.objs.size, emptyDict)]) F1 N1 (fun p hp => by rw [List.mem_singleton.mp hp]; exact Nat.ne_of_gt (hlt _ (.head _))) hl rfl rfl
  obtain ⟨F3, N3⟩ := news_upd (f := Obj.putName "ball" (PyData.keyHash w.params "ball") (.str "ball" s.toks) v) (pre := []) (o' := ballD (PyData.keyHash w.params "ball") s.toks v) F2 N2 (fun _ hp => nomatch hp) (fun p hp => by
    rcases List.mem_cons.mp hp with rfl | hp
    · exact Nat.ne_of_lt (hlt (e, exc0 t) (.head _))
    · exact Nat.ne_of_lt (hlt _ (.tail _ hp))) rfl rfl
  have D := (N2 (s.heap.objs.size, emptyDict) (.head _)).1
  have D' := (N3 (s.heap.objs.size, _) (.head _)).1
  refine wpAny_bind (wpAny_pure (wpAny_bind (wpAny_bind (wpAny_loadPart hx (wpAny_bind ((looks_clsIn X hc).here ?_))))))
  rw [hdict]
  refine wpAny_bind (wpAny_alloc (wpAny_bind (wpAny_update (N1 (e, exc0 t) (.tail _ (.head _))).1 ?_)))
  refine wpAny_pure (a := some s.heap.objs.size) (wpAny_bind (wpAny_pure (wpAny_bind ?_)))
  unfold nsSet
  refine wpAny_bind (wpAny_bind (wpAny_askSetting (wpAny_pure (wpAny_bind (wpAny_mkText (wpAny_bind (wpAny_loadPart D ?_)))))))
  refine wpAny_updatePart D ?_
  refine wpAny_bind (wpAny_lookBehind D' (pastItsLine_dict (by rw [sizeLine_eq]; show 1 ≤ _; decide)) ?_)
  exact wpAny_pure (h _ _ _ _ _ F3 N3 fun q hq => by
    rcases List.mem_cons.mp hq with rfl | hq
    · exact hlt (e, exc0 t) (.head _)
    · exact hlt _ (.tail _ hq))
theorem set_ball (F : Fr h₀ L s.heap m) (N : News h₀ L s.heap ((e, exc0 t) :: l)) (X₀ : (mk.heap_1 w.params).In h₀) (hl : ∀ q ∈ l, q.1 ≠ e)
    (h : ∀ dx hs k h' tk', Fr h₀ L h' m → News h₀ L h' ((dx, ballD hs k v) :: (e, excObj dx t) :: l) → (∀ q ∈ (e, excObj dx t) :: l, q.1 < dx) → Q () { s with heap := h', toks := tk' }) :
    wpAny (model PySem.Challenge.rw_sa0166_01.row.prog w) A (setAttr (.ref e) "ball" v) Q E s := by
  refine hidE ?_; simp (disch := k_dflt (
    refine hidW ?_
    have SF := PySem.F.store_object
    have X := X₀.keeps F.keep
    have hx := (N _ (.head _)).1
    have ty : Looks (model PySem.Challenge.rw_sa0166_01.row.prog w) s.heap (typeOf (.ref e)) (.ref 51) := (Looks.ld hx).andThen .now
    unfold setAttr callSpecial? specialOf
    refine wpAny_bind (wpAny_mkText ?_)
    refine wpAny_bind (wpAny_bind (wpAny_bind ?_))
    refine Looks.here (s := { s with toks := s.toks + 1 }) ty ?_
    refine Looks.here (s := { s with toks := s.toks + 1 }) (looks_findIn X (pe_sa w)) ?_
    refine wpAny_holding (wpAny_bind ?_)
    rw [SF.slot.bind]
    refine wpAny_pure (wpAny_bind (wpAny_call (codeAny_mono (set_code (s := { s with toks := s.toks + 1 }) (R := fun r s' => match r with | .ok (.ret _) => Q () s' | _ => False) F N X hl fun dx hs k h' tk' a b c => h dx hs k h' tk' a b c) fun r s' z => ?_)))
    rcases r with e | (v | _ | _ | _) <;> first | exact z.elim | skip
    exact wpAny_pure (wpAny_pure z))) only [↓hidL]
theorem call_pe {Q : Value → Shared → Prop} (F : Fr h₀ L s.heap m) (X₀ : (mk.heap_1 w.params).In h₀) (N : News h₀ L s.heap l)
    (h : ∀ e t h', Fr h₀ L h' m → News h₀ L h' ((e, exc0 t) :: (t, tupO [v] 0) :: l) → (∀ p ∈ l, p.1 < t) → @LT.lt Nat _ t e →
      codeAny (model PySem.Challenge.rw_sa0166_01.row.prog w) (A.under (.builtin "type.__call__" ⟨[.ref 51, v], []⟩)) (.call (.ref 48) ⟨[.ref e, v], []⟩) (InitBack e fun r s' => match r with | .ok (.ret v) => Q v s' | .ok _ => False | .error e => E e s') { s with heap := h' }) :
    wpAny (model PySem.Challenge.rw_sa0166_01.row.prog w) A (call (.ref 51) [v]) Q E s := by
  refine hidE ?_; simp (disch := k_dflt (
    refine hidW ?_
    have X := X₀.keeps F.keep
    obtain ⟨hh, g, d, tk, os⟩ := s
    refine wpAny_call (make_pe X (h _ hh.objs.size _ ((F.push _).push _) ?_ (fun p hp => Heap.lt_size (N p hp).1) (Nat.lt_succ_self _)))
    have N2 := (N.push F (tupO [v] 0)).push (F.push _) (exc0 hh.objs.size)
    rwa [Heap.size_push] at N2)) only [↓hidL]
end
end Mine
theorem Mine.wd59 : True := by
  (k_with "W setAttr ref" => (k_here; (with_reducible show wpAny _ _ (setAttr _ (PySem.Str.ofString "ball") _) _ _ _); k_dflt (refine' Mine.set_ball ?FW59 ?NW59 ?XW59 ?lW59 ?_; (case FW59 => k_asm); (case NW59 => k_asm); (case XW59 => k_asm); (case lW59 => k_all); k_whole); intro dxZ9 hsZ9 kZ9 hZ9 tkZ9 FZ9 NZ9 l1Z9; (try k_lt l1Z9); (try k_sweep)))
  trivial
namespace Mine
open PySem PySem.Calls PyProof.Rows PySem.Spec
def pe_R_T (R : Led) (v : Value) (K7 : Value → Led → Prop) : Prop := ∀ e, ∀ dx, ∀ t, ∀ hs, ∀ k, ∀ n, K7 (.ref e) ((dx, ballD hs k v) :: (e, excObj dx t) :: (t, tupO [v] n) :: R)
def pe_R (R : Led) (v : Value) (r : Value) (led' : Led) : Prop := ∀ K7 : Value → Led → Prop, pe_R_T R v K7 → K7 r led'
theorem pe_R_mk {R : Led} {v : Value} {r : Value} {led' : Led} : ∀ e, ∀ dx, ∀ t, ∀ hs, ∀ k, ∀ n, r = .ref e → led' = (dx, ballD hs k v) :: (e, excObj dx t) :: (t, tupO [v] n) :: R → pe_R R v r led' := by
  intro _ _ _ _ _ _ a0 a1
  subst a0
  subst a1
  exact fun K7 k7 => k7 _ _ _ _ _ _
theorem pe_R_pt {R : Led} {v : Value} (K7 : Value → Led → Prop) (k7 : pe_R_T R v K7) (r : Value) (led' : Led) (h7 : pe_R R v r led') : K7 r led' := h7 K7 k7
theorem pe_tells {w : World} {R : Led} {v : Value} : Tells w 51 [v] 3 R (pe_R R v) NoErr := by
  refine hidE ?_; simp (disch := k_dflt (
    refine hidW ?_
    intro dp un gd cn cs L a ccd cl outer A₀ base h₀ p loose mean mg mb m s Q E B F X N T hk dm hd hu hret hthr
    rename Option (List Code) => gd8Z
    revert X
    k_fill
    intro X
    k_dflt (refine' call_pe ?k1 ?k2 ?k3 ?_; (case k1 => k_asm); (case k2 => k_asm); (case k3 => k_asm); k_whole; intro x' d' h' F' N' l1 l2)
    have dm1 : Dm ((x', exc0 d') :: (d', tupO [v] 0) :: R) := Dm.new (Dm.newT dm rfl) (fun p hp => by
      rcases List.mem_cons.mp hp with rfl | hp
      · exact l2
      · exact Nat.lt_trans (l1 p hp) l2)
    have off1 : ∀ q ∈ (d', tupO [v] 0) :: R, q.1 ≠ x' := fun q hp => by
      rcases List.mem_cons.mp hp with rfl | hp
      · exact Nat.ne_of_lt l2
      · exact Nat.ne_of_lt (Nat.lt_trans (l1 q hp) l2)
    k_sweep
    k_dflt ktr_enter
    walk_at "st9"
    refine' hret _ _ _ _ ?F ?N ?D ?P
    (case F => k_asm)
    (case N => k_asm)
    (case D => assumption)
    (case P => exact pe_R_mk _ _ _ _ _ _ rfl rfl))) only [↓hidL]
end Mine
namespace Mine
open PySem PySem.Calls PyProof.Rows PySem.Spec
/-- the error e (its class and dict as given) has been noted, its last mark is fl -/
def ExAt (h base : Heap) (e : Addr) (c : Value) (dd : Option Addr) (fl : Value) : Prop :=
  ∃ oe vs T oT ts, h.get? e = some oe ∧ (oe.cls = c ∧ oe.dict = dd) ∧ oe.data = .fields vs ∧ vs[1]? = some (.ref T) ∧ base.get? T = none ∧ T ≠ e ∧ h.get? T = some oT ∧ oT.data = .fields ts ∧ ts[3]? = some fl
theorem dict_mapFields (f : Array Value → Array Value) (o : Obj) : (Obj.mapFields f o).dict = o.dict := by
  obtain ⟨oc, od, oda, osl⟩ := o
  cases oda <;> rfl
section
variable {M : Model} {A : Around} {E : Value → Shared → Prop} {s : Shared} {base : Heap} {env : Env} {outer l : List Env} {L e : Addr} {oe : Obj} {vs : Array Value} {head c fl : Value} {hadNext : Bool} {dd : Option Addr} {Q : Unit → Shared → Prop}
theorem not_fields {a : Addr} {o : Obj} {vs : Array Value} (ha : s.heap.get? a = some o) (hd : o.data = .fields vs) : ∀ b o', s.heap.get? b = some o' → (∀ ws, o'.data ≠ .fields ws) → b ≠ a := fun b o' hb hn q => by
  rw [q, ha] at hb; cases hb; exact hn vs hd
theorem pe_entry (hfr : A.frames = some (env :: outer)) (hl : s.heap.FunFrames base (env :: outer)) (hf : env.frame = some L)
    (he : s.heap.get? e = some oe) (hkb : base.StaysIn s.heap) (hen : base.get? e = none) (hd : oe.data = .fields vs) (hsz : 1 < vs.size)
    (h : ∀ h', base.StaysIn h' → h'.FunFrames base (env :: outer) → ExAt h' base e oe.cls oe.dict (rawInt L) → s.heap.UpToSlots h' → Q () { s with heap := h' }) :
    wpAny M A (do let a ← frameOf env; let pl ← entryPlaceOf L hadNext; let b ← EntryCells.newEntry head a .none (rawInt L) .none pl; setField (.ref e) 1 b) Q E s := by
  have off : e ∉ (env :: outer).filterMap (·.frame) := fun hm => by
    obtain ⟨_, o, ho, hn⟩ := hl.mem hm
    rw [he] at ho; cases ho; exact hn vs hd
  refine wpAny_bind (wpAny_frameOf_fun hfr hl hf fun g hs => wpAny_bind (wpAny_entryPlaceOf fun pl hpl => ?_))
  unfold EntryCells.newEntry newFields
  refine wpAny_bind (wpAny_newObj_type ?_ (hpl.sizeOk5 _ _ _ _ _))
  generalize hT : ({ cls := .type "traceback", dict := none, data := .fields ([head, .ref L, .none, rawInt L, .none] ++ (if pl.isEmpty then List.replicate 6 Value.none else pl)).toArray } : Obj) = oT
  have heg : g.get? e = some oe := (hs.2.1 e off).trans he
  have kbg : base.StaysIn g := fun b o hb => (hs.2.1 b fun hm => by rw [(hl.mem hm).1] at hb; cases hb).trans (hkb b o hb)
  have hep := Heap.get?_push_of_some oT heg
  refine wpAny_setField hep hd hsz ?_
  have hTe : g.objs.size ≠ e := Nat.ne_of_gt (Heap.lt_size heg)
  have stay : ∀ b o, b ≠ e → g.get? b = some o → ((g.push oT).update e (Obj.mapFields (·.setIfInBounds 1 (Value.ref g.objs.size)))).get? b = some o := fun b o hbe hb =>
    (Heap.get?_update_other _ _ (Ne.symm hbe)).trans (Heap.get?_push_of_some _ hb)
  have apart := not_fields he hd
  refine h _ (fun b o hb => stay b o (fun q => by rw [q, hen] at hb; cases hb) (kbg b o hb)) (hl.of_keeps fun b o hb hn => ?_) ?_ fun b o hb hn => ?_
  · obtain ⟨sl, hq⟩ := hs.2.2 b o hb
    exact ⟨_, stay b _ (apart b o hb hn) hq, rfl⟩
  · refine ⟨_, _, g.objs.size, oT, _, Heap.get?_update_self _ hep (Obj.isFreed_of_fields (Obj.data_mapFields hd _)), ⟨Obj.cls_mapFields _ _, dict_mapFields _ _⟩, Obj.data_mapFields hd _, by simp [hsz], kbg.fresh, hTe,
      (Heap.get?_update_other _ _ (Ne.symm hTe)).trans (Heap.get?_push_size g (by rw [← hT]; rfl)), by rw [← hT], ?_⟩
    rcases hpl with rfl | ⟨_, _, _, _, _, _, _, rfl⟩ <;> simp
  · obtain ⟨sl, hq⟩ := hs.2.2 b o hb
    exact ⟨sl, stay b _ (apart b o hb hn) hq⟩
theorem pe_note1 (hfr : A.frames = some (env :: outer)) (hl : s.heap.FunFrames base (env :: outer)) (hf : env.frame = some L)
    (he : s.heap.get? e = some oe) (hkb : base.StaysIn s.heap) (hen : base.get? e = none) (hd : oe.data = .fields vs) (h1 : vs[1]? = some .none)
    (h : ∀ h', base.StaysIn h' → h'.FunFrames base (env :: outer) → ExAt h' base e oe.cls oe.dict (rawInt L) → s.heap.UpToSlots h' → Q () { s with heap := h' }) : wpAny M A (noteFrame (.ref e) env) Q E s := by
  unfold noteFrame
  simp only [hf]
  refine wpAny_bind (wpAny_field he hd h1 ?_)
  rw [if_neg (by decide)]
  exact pe_entry hfr hl hf he hkb hen hd (Array.getElem?_eq_some_iff.mp h1).1 h
theorem pe_note2 (hfr : A.frames = some (env :: outer)) (hl : s.heap.FunFrames base (env :: outer)) (hf : env.frame = some L) (ht : ExAt s.heap base e c dd .none) (hkb : base.StaysIn s.heap) (hen : base.get? e = none)
    (h : ∀ h', base.StaysIn h' → h'.FunFrames base (env :: outer) → ExAt h' base e c dd (rawInt L) → s.heap.UpToSlots h' → Q () { s with heap := h' }) : wpAny M A (noteFrame (.ref e) env) Q E s := by
  obtain ⟨oe, vs, T, oT, ts, he, ⟨rfl, rfl⟩, hd, h1, hnT, hTe, hT, hdT, h3⟩ := ht
  unfold noteFrame
  simp only [hf]
  refine wpAny_bind (wpAny_field he hd h1 ?_)
  rw [if_pos (by simp)]
  refine wpAny_bind (wpAny_field hT hdT h3 ?_)
  rw [if_neg (by simp [rawInt])]
  refine wpAny_bind (wpAny_setField hT hdT (Array.getElem?_eq_some_iff.mp h3).1 ?_)
  have off : ∀ b, b ≠ T → (s.heap.update T (Obj.mapFields (·.setIfInBounds 3 Value.none))).get? b = s.heap.get? b := fun b hb => Heap.get?_update_other _ _ (Ne.symm hb)
  have apart := not_fields hT hdT
  exact pe_entry hfr (hl.of_keeps fun b o hb hn => ⟨o, (off b (apart b o hb hn)).trans hb, rfl⟩) hf ((off e (Ne.symm hTe)).trans he)
    (fun b o hb => (off b fun q => by rw [q, hnT] at hb; cases hb).trans (hkb b o hb)) hen hd (Array.getElem?_eq_some_iff.mp h1).1
    fun h' k1 k2 k3 k4 => h h' k1 k2 k3 fun b o hb hn => k4 b o ((off b (apart b o hb hn)).trans hb) hn
theorem pe_land (hl : s.heap.FunFrames base l) (hkb : base.StaysIn s.heap) (ht : ExAt s.heap base e c dd fl)
    (h : ∀ h', base.StaysIn h' → h'.FunFrames base l → ExAt h' base e c dd .none → s.heap.UpToSlots h' → Q () { s with heap := h' }) : wpAny M A (setFlight (.ref e) none) Q E s := by
  obtain ⟨oe, vs, T, oT, ts, he, hc, hd, h1, hnT, hTe, hT, hdT, h3⟩ := ht
  have hz : 3 < ts.size := (Array.getElem?_eq_some_iff.mp h3).1
  have off : ∀ b, b ≠ T → (s.heap.update T (Obj.mapFields (·.setIfInBounds 3 ((none : Option Addr).elim Value.none fun f => rawInt f)))).get? b = s.heap.get? b := fun b hb => Heap.get?_update_other _ _ (Ne.symm hb)
  have apart := not_fields hT hdT
  unfold setFlight
  refine wpAny_bind (wpAny_field he hd h1 ?_)
  rw [if_pos (by simp)]
  refine wpAny_setField hT hdT hz (h _ (fun b o hb => (off b fun q => by rw [q, hnT] at hb; cases hb).trans (hkb b o hb)) (hl.of_keeps fun b o hb hn => ⟨o, (off b (apart b o hb hn)).trans hb, rfl⟩) ?_
    fun b o hb hn => ⟨o.slots, (off b (apart b o hb hn)).trans hb⟩)
  exact ⟨oe, vs, T, _, _, (off e (Ne.symm hTe)).trans he, hc, hd, h1, hnT, hTe, Heap.get?_update_self _ hT (Obj.isFreed_of_fields (Obj.data_mapFields hdT _)), Obj.data_mapFields hdT _, by simp [hz]⟩
end
section
variable {M : Model} {A : Around} {E : Value → Shared → Prop} {s' : Shared} {base g g₂ h : Heap} {outer : List Env} {L a e t dx : Addr} {m : Str → Option Value} {name : Str} {scope : Scope} {cd : Value} {Q : Unit → Shared → Prop} {led : Led}
/-- the raised error leaves the frame in which it was raised -/
theorem leave1 (K : Below A base outer g) (F : Fr g L s'.heap m) (N : News g L s'.heap ((e, excObj dx t) :: led)) (ho : ∀ q ∈ led, q.1 ≠ e)
    (hQ : ∀ h', Rz base outer e dx led h' → g.UpToSlots h' → Q () { s' with heap := h' }) (hk : scope.kind = .function := by rfl) :
    wpAny M (A.deeper (envOf name scope L a cd)) (leaving (envOf name scope L a cd) (.ref e)) Q E s' := by
  have K' := K.push (name := name) (a := a) (cd := cd) F hk
  have he := N _ (.head _)
  have hin : ∀ env ∈ (envOf name scope L a cd :: outer), ∀ b, env.frame = some b → b ∈ (envOf name scope L a cd :: outer).filterMap (·.frame) ++ [e] := fun env he b hb => List.mem_append_left _ (List.mem_filterMap.mpr ⟨env, he, hb⟩)
  have hne : ∀ q ∈ ((e, excObj dx t) :: led), q.1 ∉ (envOf name scope L a cd :: outer).filterMap (·.frame) := fun q hq hm => by
    obtain ⟨env, he, hf⟩ := List.mem_filterMap.mp hm
    rcases List.mem_cons.mp he with rfl | he
    · exact (N q hq).2.1 (Option.some.inj hf).symm
    · obtain ⟨o, ho, _⟩ := (K.frames.mem (List.mem_filterMap.mpr ⟨env, he, hf⟩)).2
      rw [(N q hq).2.2] at ho; cases ho
  have stB : base.StaysIn (hideAll s'.heap ((envOf name scope L a cd :: outer).filterMap (·.frame) ++ [e])) := fun b o q => hideAll_get _ (K'.stays b o q) fun hm => by
    rcases List.mem_append.mp hm with hm | hm
    · rw [(K'.frames.mem hm).1] at q; cases q
    · rw [List.mem_singleton.mp hm, fresh_of_stays K.stays he.2.2] at q; cases q
  have hl : ∀ q ∈ led, (hideAll s'.heap ((envOf name scope L a cd :: outer).filterMap (·.frame) ++ [e])).get? q.1 = some q.2 ∧ base.get? q.1 = none := fun q hq => by
    refine ⟨hideAll_get _ (N q (.tail _ hq)).1 fun hm => ?_, fresh_of_stays K.stays (N q (.tail _ hq)).2.2⟩
    rcases List.mem_append.mp hm with hm | hm
    · exact hne q (.tail _ hq) hm
    · exact ho q hq (List.mem_singleton.mp hm)
  have hB : (hideAll s'.heap ((envOf name scope L a cd :: outer).filterMap (·.frame) ++ [e])).get? e = none := hideAll_none _ (List.mem_append_right _ (.head _))
  unfold leaving
  refine wpAny_bind (pe_note1 K'.stack (funFrames_hide K'.frames hin) rfl he.1 (fun b o q => of_hideAll _ q) hB rfl rfl fun h1 a1 a2 a3 a4 => ?_)
  refine pe_land a2 a1 a3 fun h2 b1 b2 b3 b4 => ?_
  exact hQ h2 ⟨_, stB, hl, b1, hB, b2.2.2, b3⟩ ((Heap.UpToSlots.of_keeps F.keep).trans (a4.trans b4))
/-- it leaves a frame that it came to from a callee -/
theorem leave2 (K : Below A base outer g) (F : Fr g L g₂ m) (R : Rz base (envOf name scope L a cd :: outer) e dx led s'.heap) (hsm : g₂.UpToSlots s'.heap)
    (hQ : ∀ h', Rz base outer e dx led h' → g.UpToSlots h' → Q () { s' with heap := h' }) :
    wpAny M (A.deeper (envOf name scope L a cd)) (leaving (envOf name scope L a cd) (.ref e)) Q E s' := by
  obtain ⟨B, hB, hl, hst, hen, hfr, hfl⟩ := R
  unfold leaving
  refine wpAny_bind (pe_note2 (Around.frames_deeper K.stack) hfr rfl hfl hst hen fun h1 a1 a2 a3 a4 => ?_)
  refine pe_land a2 a1 a3 fun h2 b1 b2 b3 b4 => ?_
  exact hQ h2 ⟨B, hB, hl, b1, hen, b2.2.2, b3⟩ ((Heap.UpToSlots.of_keeps F.keep).trans (hsm.trans (a4.trans b4)))
end
section
variable {w : World} {A : Around} {E : Value → Shared → Prop} {s : Shared} {env : Env} {e : Expr} {pos : Pos} {Q : Flow → Shared → Prop}
theorem raise_pe (hh : A.handled = none) (h : wpAny (model PySem.Challenge.rw_sa0166_01.row.prog w) A (eval e env) (fun v s₁ => ∃ a dx t, v = .ref a ∧ (mk.heap_1 w.params).In s₁.heap ∧ s₁.heap.get? a = some (excObj dx t) ∧ E (.ref a) s₁) E s) :
    wpAny (model PySem.Challenge.rw_sa0166_01.row.prog w) A (exec (.Raise (some e) none pos) env) Q E s := by
  show wpAny (model PySem.Challenge.rw_sa0166_01.row.prog w) A (do standAt pos; raiseStmt env (some (do let v ← eval e env; standAt pos; pure v)) none) Q E s
  refine wpAny_bind (wpAny_standAt ?_)
  unfold raiseStmt
  refine wpAny_bind (wpAny_bind (wpAny_mono h (fun v s₁ h₁ => wpAny_bind (wpAny_standAt (wpAny_pure ?_))) fun _ _ x => x))
  obtain ⟨a, dx, t, rfl, X, he, hE⟩ := h₁
  obtain ⟨bm, N, nm, q, bs, hdct, sn, sub, ab, col, dd, k0, k1, k2, k3, k5, hC, T⟩ := pe_cls X
  have hcB : (Value.ref 51 :: bm).contains (.type "BaseException") = true := by rw [List.contains_cons, T.hasType (b := true) (by decide), Bool.or_true]
  obtain ⟨hp, g, d, tk, os⟩ := s₁
  repeat (first | with_reducible refine wpAny_loadPart_at he ?_ | with_reducible refine wpAny_loadPart_at hC ?_ | (with_reducible refine wpAny_isSubtype_exc hC ?_; rw [hcB]) | wp_step)
  exact wpAny_raiseNew_none hh hE
end
end Mine
namespace Mine
open PySem PySem.Calls PyProof.Rows PySem.Spec
theorem pe_name (w : World) : nsIn (mk.heap_1 w.params) mainGlobals "PrologError" = some (some (.ref 51)) := by kernel_rfl
end Mine
namespace Mine
open PySem PySem.Calls PyProof.Rows PySem.Spec
/-- the errors that evaluation raises -/
inductive Er where
  | inst
  | mem
  | zero
  | float (i : Int)
  | small (i : Int)
  | evalu (n k : Int)
noncomputable def Sy.fn (σ : Sy) (x : Str) (k : Int) : Int := σ.fnum (σ.anum x, k)
def Sy.HasF (σ : Sy) (x : Str) (k : Int) : Prop := x ∈ σ.texts ∧ (σ.anum x, k) ∈ σ.funs
noncomputable def Er.formal (σ : Sy) : Er → Tm
  | .inst => .at (σ.anum (Str.ofString "instantiation_error"))
  | .mem => .s1 (σ.fn (Str.ofString "resource_error") 1) (.at (σ.anum (Str.ofString "memory")))
  | .zero => .s1 (σ.fn (Str.ofString "evaluation_error") 1) (.at (σ.anum (Str.ofString "zero_divisor")))
  | .float i => .s2 (σ.fn (Str.ofString "type_error") 2) (.at (σ.anum (Str.ofString "float"))) (.num i)
  | .small i => .s2 (σ.fn (Str.ofString "type_error") 2) (.at (σ.anum (Str.ofString "not_less_than_one"))) (.num i)
  | .evalu n k => .s2 (σ.fn (Str.ofString "type_error") 2) (.at (σ.anum (Str.ofString "evaluable"))) (.s2 15 (.at n) (.num k))
noncomputable def Er.ball (σ : Sy) (x : Er) : Tm := .s2 16 (x.formal σ) (.at 25)
def Er.Known (σ : Sy) : Er → Prop
  | .inst => Str.ofString "instantiation_error" ∈ σ.texts
  | .mem => Str.ofString "memory" ∈ σ.texts ∧ σ.HasF (Str.ofString "resource_error") 1
  | .zero => Str.ofString "zero_divisor" ∈ σ.texts ∧ σ.HasF (Str.ofString "evaluation_error") 1
  | .float _ => Str.ofString "float" ∈ σ.texts ∧ σ.HasF (Str.ofString "type_error") 2
  | .small _ => Str.ofString "not_less_than_one" ∈ σ.texts ∧ σ.HasF (Str.ofString "type_error") 2
  | .evalu _ _ => Str.ofString "evaluable" ∈ σ.texts ∧ σ.HasF (Str.ofString "type_error") 2
theorem anum_le {σ σ' : Sy} (l : σ.Le σ') {x : Str} (h : x ∈ σ.texts) : σ'.anum x = σ.anum x ∧ x ∈ σ'.texts := by
  obtain ⟨⟨r, e⟩, _⟩ := l
  unfold Sy.anum
  rw [e, idxOf_app h]
  exact ⟨rfl, List.mem_append_left _ h⟩
theorem hasF_le {σ σ' : Sy} (l : σ.Le σ') {x : Str} {k : Int} (h : σ.HasF x k) : σ'.fn x k = σ.fn x k ∧ σ'.HasF x k := by
  obtain ⟨h1, h2⟩ := anum_le l h.1
  obtain ⟨_, ⟨q, e⟩⟩ := l
  unfold Sy.fn Sy.HasF Sy.fnum
  rw [h1, e, List.idxOf_append, if_pos h.2]
  exact ⟨rfl, h2, List.mem_append_left _ h.2⟩
theorem Er.known_le {σ σ' : Sy} (l : σ.Le σ') {x : Er} (h : x.Known σ) : x.Known σ' ∧ x.ball σ' = x.ball σ := by
  cases x with
  | inst => exact ⟨(anum_le l h).2, by simp only [Er.ball, Er.formal, (anum_le l h).1]⟩
  | mem => exact ⟨⟨(anum_le l h.1).2, (hasF_le l h.2).2⟩, by simp only [Er.ball, Er.formal, (anum_le l h.1).1, (hasF_le l h.2).1]⟩
  | zero => exact ⟨⟨(anum_le l h.1).2, (hasF_le l h.2).2⟩, by simp only [Er.ball, Er.formal, (anum_le l h.1).1, (hasF_le l h.2).1]⟩
  | float i => exact ⟨⟨(anum_le l h.1).2, (hasF_le l h.2).2⟩, by simp only [Er.ball, Er.formal, (anum_le l h.1).1, (hasF_le l h.2).1]⟩
  | small i => exact ⟨⟨(anum_le l h.1).2, (hasF_le l h.2).2⟩, by simp only [Er.ball, Er.formal, (anum_le l h.1).1, (hasF_le l h.2).1]⟩
  | evalu n k => exact ⟨⟨(anum_le l h.1).2, (hasF_le l h.2).2⟩, by simp only [Er.ball, Er.formal, (anum_le l h.1).1, (hasF_le l h.2).1]⟩
theorem hasF_func {σ : Sy} {x : Str} {k : Int} : (σ.func x k).HasF x k ∧ (σ.func x k).fn x k = σ.funcN x k := by
  have ht : (σ.func x k).texts = (σ.atom x).texts := functor_texts
  have ha : (σ.func x k).anum x = σ.anum x := by
    unfold Sy.anum; rw [ht]
    by_cases hx : x ∈ σ.texts
    · rw [show σ.atom x = σ from if_pos hx]
    · rw [show σ.atom x = ⟨σ.texts ++ [x], σ.funs⟩ from if_neg hx, List.idxOf_append, if_neg hx, List.idxOf_eq_length hx]; simp
  have hm : (σ.anum x, k) ∈ (σ.func x k).funs := by
    unfold Sy.func Sy.functor
    split
    · assumption
    · simp
  refine ⟨⟨by rw [ht]; exact mem_atom, by rw [ha]; exact hm⟩, ?_⟩
  unfold Sy.fn Sy.funcN Sy.fnum
  rw [ha]
  unfold Sy.func Sy.functor
  split
  · rfl
  · rename_i h
    rw [List.idxOf_append, if_neg h, List.idxOf_eq_length h]; simp
theorem anum_self {σ : Sy} {x : Str} : (σ.atom x).anum x = σ.anum x := by
  unfold Sy.anum
  by_cases hx : x ∈ σ.texts
  · rw [show σ.atom x = σ from if_pos hx]
  · rw [show σ.atom x = ⟨σ.texts ++ [x], σ.funs⟩ from if_neg hx, List.idxOf_append, if_neg hx, List.idxOf_eq_length hx]; simp
/-- what the makers of errors hand back -/
inductive ErrRet (w : World) (sy : Addr) (σ : Sy) (n : Nat) (er : Er) (R : Led) (r : Value) (led' : Led) : Prop
  | mk : ∀ S', ∀ σ', ∀ e, ∀ dx, ∀ t, ∀ hs, ∀ k, ∀ v, ∀ J, SymAt w sy σ' S' → σ.Le σ' → σ'.Dot → σ'.Small (n + 2) → er.Known σ' → TmV J v (er.ball σ') → r = .ref e → led' = S' ++ ((dx, ballD hs k v) :: (e, excObj dx t) :: (J ++ R)) → ErrRet w sy σ n er R r led'
def ErrRet_T (w : World) (sy : Addr) (σ : Sy) (n : Nat) (er : Er) (R : Led) (K7 : Value → Led → Prop) : Prop := ∀ S', ∀ σ', ∀ e, ∀ dx, ∀ t, ∀ hs, ∀ k, ∀ v, ∀ J, SymAt w sy σ' S' → σ.Le σ' → σ'.Dot → σ'.Small (n + 2) → er.Known σ' → TmV J v (er.ball σ') → K7 (.ref e) (S' ++ ((dx, ballD hs k v) :: (e, excObj dx t) :: (J ++ R)))
theorem ErrRet_pt {w : World} {sy : Addr} {σ : Sy} {n : Nat} {er : Er} {R : Led} (K7 : Value → Led → Prop) (k7 : ErrRet_T w sy σ n er R K7) (r : Value) (led' : Led) (h7 : ErrRet w sy σ n er R r led') : K7 r led' := by
  obtain ⟨_, _, _, _, _, _, _, _, _, a0, a1, a2, a3, a4, a5, a6, a7⟩ := h7
  subst a6
  subst a7
  exact k7 _ _ _ _ _ _ _ _ _ a0 a1 a2 a3 a4 a5
def sys_R_T (R : Led) (v : Value) (K7 : Value → Led → Prop) : Prop := ∀ e, ∀ dx, ∀ t, ∀ hs, ∀ k, ∀ b, ∀ c, ∀ d, ∀ n1, ∀ n2, ∀ n3, ∀ n4, ∀ t1, ∀ t2, ∀ t3, ∀ t4, K7 (.ref e) ((dx, ballD hs k (.ref b)) :: (e, excObj dx t) :: (t, tupO [.ref b] n1) :: (b, tupO [.str (Str.ofString "s") t1, .int 16 t2, .ref c] n2) :: (c, tupO [v, .ref d] n3) :: (d, tupO [.str (Str.ofString "a") t3, .int 25 t4] n4) :: R)
def sys_R (R : Led) (v : Value) (r : Value) (led' : Led) : Prop := ∀ K7 : Value → Led → Prop, sys_R_T R v K7 → K7 r led'
theorem sys_R_mk {R : Led} {v : Value} {r : Value} {led' : Led} : ∀ e, ∀ dx, ∀ t, ∀ hs, ∀ k, ∀ b, ∀ c, ∀ d, ∀ n1, ∀ n2, ∀ n3, ∀ n4, ∀ t1, ∀ t2, ∀ t3, ∀ t4, r = .ref e → led' = (dx, ballD hs k (.ref b)) :: (e, excObj dx t) :: (t, tupO [.ref b] n1) :: (b, tupO [.str (Str.ofString "s") t1, .int 16 t2, .ref c] n2) :: (c, tupO [v, .ref d] n3) :: (d, tupO [.str (Str.ofString "a") t3, .int 25 t4] n4) :: R → sys_R R v r led' := by
  intro _ _ _ _ _ _ _ _ _ _ _ _ _ _ _ _ a0 a1
  subst a0
  subst a1
  exact fun K7 k7 => k7 _ _ _ _ _ _ _ _ _ _ _ _ _ _ _ _
theorem sys_R_pt {R : Led} {v : Value} (K7 : Value → Led → Prop) (k7 : sys_R_T R v K7) (r : Value) (led' : Led) (h7 : sys_R R v r led') : K7 r led' := h7 K7 k7
theorem sys_tells {w : World} {R : Led} {v : Value} : Tells w 186 [v] 4 R (sys_R R v) NoErr := by
  refine hidE ?_; simp (disch := k_dflt (
    refine hidW ?_
    intro dp un gd cn cs L a ccd cl outer A₀ base h₀ p loose mean mg mb m s Q E B F X N T hk dm hd hu hret hthr
    rename Option (List Code) => gd9Z
    k_with "mine call" => guard_hyp gd9Z; first
      | k_dflt (refine' go0n (e := pe_R_pt) pe_tells ?B102 ?F102 ?X102 ?N102 ?T102 ?hk102 ?d102 ?hd102 ?hu102 ?_; (case B102 => k_asm); (case F102 => k_asm); (case X102 => k_asm); (case N102 => k_asm); (case T102 => k_asm); (case hk102 => first | exact rfl | assumption); (case d102 => walk_at "dmx"); (case hd102 => walk_at "hdx"); (case hu102 => walk_at "hux"); intro e9 dx9 t9 hs9 k9 n9 h9 tk9 F9 N9 D9; (try k_sweep); (try dsimp only))
    (revert X; k_fill; intro X; refine wpAny_call ?_; k_dflt ktr_enter; walk_at "loc"; refine genT ?_; intro tk9)
    walk_at "st9"
    refine' hret _ _ _ _ ?F ?N ?D ?P
    (case F => k_asm)
    (case N => k_asm)
    (case D => assumption)
    (case P => exact sys_R_mk _ _ _ _ _ _ _ _ _ _ _ _ _ _ _ _ rfl rfl))) only [↓hidL]
theorem inst_tells {w : World} {sy : Addr} {σ : Sy} {S R : Led} {n : Nat} (hS : SymAt w sy σ S) (hd0 : σ.Dot) (hz : σ.Small n) (hn : n < 50000) :
    Tells w 200 [.ref sy] 6 (S ++ R) (ErrRet w sy σ n .inst R) NoErr := by
  refine hidE ?_; simp (disch := k_dflt (
    refine hidW ?_
    intro dp un gd cn cs L a ccd cl outer A₀ base h₀ p loose mean mg mb m s Q E B F X N T hk dm hd hu hret hthr
    rename Option (List Code) => gd10Z; (k_with "ar2" => guard_hyp gd10Z; first | with_reducible exact om263 | with_reducible exact om256 hn)
    k_with "mine call" => guard_hyp gd10Z; first
      | k_dflt (refine' go1n (e := atom_R_pt) (atom_tells (by assumption) ?z) ?B105 ?F105 ?X105 ?N105 ?T105 ?hk105 ?d105 ?r105 ?hd105 ?hu105 ?_; (case B105 => k_asm); (case F105 => k_asm); (case X105 => k_asm); (case N105 => k_asm); (case T105 => k_asm); (case hk105 => first | exact rfl | assumption); (case d105 => walk_at "dmx"); (case r105 => walk_at "rot"); (case hd105 => walk_at "hdx"); (case hu105 => walk_at "hux"); (case z => exact Sy.Small.mono (by assumption) (by walk_at "ar")); intro S9 u9 hS9 h9 tk9 F9 N9 D9; replace N9 := News.perm List.perm_append_comm N9; replace D9 := Dm.perm List.perm_append_comm D9; (try simp only [List.cons_append, List.nil_append, List.append_nil, List.append_assoc] at N9 D9); (try k_sweep); (try dsimp only))
      | k_dflt (refine' go0n (e := sys_R_pt) sys_tells ?B107 ?F107 ?X107 ?N107 ?T107 ?hk107 ?d107 ?hd107 ?hu107 ?_; (case B107 => k_asm); (case F107 => k_asm); (case X107 => k_asm); (case N107 => k_asm); (case T107 => k_asm); (case hk107 => first | exact rfl | assumption); (case d107 => walk_at "dmx"); (case hd107 => walk_at "hdx"); (case hu107 => walk_at "hux"); intro e9 dx9 t9 hs9 k9 b9 c9 d9 n1 n2 n3 n4 t1 t2 t3 t4 h9 tk9 F9 N9 D9; (try k_sweep); (try dsimp only))
    refine sym_inst hS ?_; intro _ _ _ _ _ _ _ _ _ _ _ _ _ hi1 hi2
    (revert X; k_fill; intro X; refine wpAny_call ?_; k_dflt ktr_enter; walk_at "loc"; refine genT ?_; intro tk9)
    walk_at "st9"
    refine' out3R (P := S9) (P2 := [(dx9, _)]) (P3 := [(e9, _)]) (R := R) hret ?F109 ?N109 ?D109 ?r109 ?rr109 ?rrr109 ?rrrr109 ?P; (case F109 => k_asm); (case N109 => k_asm); (case D109 => walk_at "dm"); (case r109 => walk_at "rot"); (case rr109 => walk_at "rot"); (case rrr109 => walk_at "rot"); (case rrrr109 => walk_at "rot")
    (case P => exact ⟨S9, _, _, _, _, _, _, _, _, hS9, le_atom, dot_atom hd0, (small_atom hz).mono (by walk_at "ar"), mem_atom, .s2 (.tail _ (.head _)) (.tail _ (.tail _ (.head _))) (.at (by rw [anum_self]; exact .tail _ (.tail _ (.tail _ (.tail _ (.head _)))))) (.at (.tail _ (.tail _ (.tail _ (.head _))))), rfl, rfl⟩))) only [↓hidL]
end Mine
theorem Mine.wd60 : True := by
  (k_with "W exec For Name Name cons nil" => (k_here; (rename Fr _ _ _ _ => lFZ9); (with_unfolding_all refine' For_invVF lFZ9 ?k1W60 ?k2W60 ?_; (case k1W60 => exact rfl); (case k2W60 => exact rfl); k_whole)))
  trivial
namespace Mine
open PySem PySem.Calls PyProof.Rows PySem.Spec
theorem TurnQ.rot {h₀ : Heap} {L : Addr} {s₁ : Shared} {I : Addr} {io : Obj} {J : (Str → Option Value) → Led → Prop} {Q : Flow → Shared → Prop} {h' : Heap} {tk : Nat} {m' : Str → Option Value} {led0 led' : Led}
    (F : Fr h₀ L h' m') (N : News h₀ L h' led0) (d : Dm led0) (r : Rot [(I, io)] led0 led') (hj : J m' led') : TurnQ h₀ L s₁ I io J Q .next { s₁ with heap := h', toks := tk } := TurnQ.next F (News.perm r.perm N) (Dm.perm r.perm d) hj
theorem outR {h₀ h' : Heap} {L : Addr} {m : Str → Option Value} {s : Shared} {Q : Value → Shared → Prop} {led P R R1 J : Led} {Ret : Value → Led → Prop} {r : Value} {tk' : Nat} (hret : ∀ r led' h' tk', Fr h₀ L h' m → News h₀ L h' led' → Dm led' → Ret r led' → Q r { s with heap := h', toks := tk' })
    (F : Fr h₀ L h' m) (N : News h₀ L h' led) (d : Dm led) (r1 : Rot P led R1) (r4 : Rot R R1 J) (hR : Ret r (P ++ (J ++ R))) : Q r { s with heap := h', toks := tk' } :=
  have p : led.Perm (P ++ (J ++ R)) := r1.perm.trans (List.Perm.append_left P (r4.perm.trans List.perm_append_comm))
  hret _ _ _ _ F (News.perm p N) (Dm.perm p d) hR
def formal1_R_T (w : World) (sy : Addr) (σ : Sy) (R : Led) (n : Nat) (x y : Str) (K7 : Value → Led → Prop) : Prop := ∀ (r : Value), ∀ S', ∀ σ', ∀ J, SymAt w sy σ' S' → σ.Le σ' → σ'.Dot → σ'.Small (n + 2) → x ∈ σ'.texts → σ'.HasF y 1 → TmV J r (.s1 (σ'.fn y 1) (.at (σ'.anum x))) → K7 (r) (S' ++ (J ++ R))
def formal1_R (w : World) (sy : Addr) (σ : Sy) (R : Led) (n : Nat) (x y : Str) (r : Value) (led' : Led) : Prop := ∀ K7 : Value → Led → Prop, formal1_R_T w sy σ R n x y K7 → K7 r led'
theorem formal1_R_mk {w : World} {sy : Addr} {σ : Sy} {R : Led} {n : Nat} {x y : Str} {r : Value} {led' : Led} : ∀ S', ∀ σ', ∀ J, SymAt w sy σ' S' → σ.Le σ' → σ'.Dot → σ'.Small (n + 2) → x ∈ σ'.texts → σ'.HasF y 1 → TmV J r (.s1 (σ'.fn y 1) (.at (σ'.anum x))) → led' = S' ++ (J ++ R) → formal1_R w sy σ R n x y r led' := by
  intro _ _ _ a0 a1 a2 a3 a4 a5 a6 a7
  subst a7
  exact fun K7 k7 => k7 _ _ _ _ a0 a1 a2 a3 a4 a5 a6
theorem formal1_R_pt {w : World} {sy : Addr} {σ : Sy} {R : Led} {n : Nat} {x y : Str} (K7 : Value → Led → Prop) (k7 : formal1_R_T w sy σ R n x y K7) (r : Value) (led' : Led) (h7 : formal1_R w sy σ R n x y r led') : K7 r led' := h7 K7 k7
theorem formal1_tells {w : World} {sy pa : Addr} {σ : Sy} {S R : Led} {n k : Nat} {x y : Str} {t t' : Tok} (hS : SymAt w sy σ S) (hd0 : σ.Dot) (hz : σ.Small n) (hn : n < 50000) :
    Tells w 193 [.ref sy, .str y t, .ref pa] 4 (S ++ ([(pa, tupO [.str x t'] k)] ++ R)) (formal1_R w sy σ R n x y) NoErr := by
  refine hidE ?_; simp (disch := k_dflt (
    refine hidW ?_
    intro dp un gd cn cs L a ccd cl outer A₀ base h₀ p loose mean mg mb m s Q E B F X N T hk dm hd hu hret hthr
    dsimp only [List.cons_append, List.nil_append] at N dm
    rename Option (List Code) => gd11Z; (k_with "ar2" => guard_hyp gd11Z; first | with_reducible exact om256 hn | with_reducible exact om255 hn)
    k_with "mine call" => guard_hyp gd11Z; first
      | k_dflt (refine' go1n (e := atom_R_pt) (atom_tells (by assumption) ?z) ?B111 ?F111 ?X111 ?N111 ?T111 ?hk111 ?d111 ?r111 ?hd111 ?hu111 ?_; (case B111 => k_asm); (case F111 => k_asm); (case X111 => k_asm); (case N111 => k_asm); (case T111 => k_asm); (case hk111 => first | exact rfl | assumption); (case d111 => walk_at "dmx"); (case r111 => walk_at "rot"); (case hd111 => walk_at "hdx"); (case hu111 => walk_at "hux"); (case z => exact Sy.Small.mono (by assumption) (by walk_at "ar")); intro S9 u9 hS9 h9 tk9 F9 N9 D9; replace N9 := News.perm List.perm_append_comm N9; replace D9 := Dm.perm List.perm_append_comm D9; (try simp only [List.cons_append, List.nil_append, List.append_nil, List.append_assoc] at N9 D9); (try k_sweep); (try dsimp only); refine sym_inst hS9 ?_; intro _ _ _ _ _ _ _ _ _ _ _ _ _ hi1 hi2)
      | k_dflt (refine' go1n (e := func_R_pt) (func_tells (by assumption) ?zz) ?B113 ?F113 ?X113 ?N113 ?T113 ?hk113 ?d113 ?r113 ?hd113 ?hu113 ?_; (case B113 => k_asm); (case F113 => k_asm); (case X113 => k_asm); (case N113 => k_asm); (case T113 => k_asm); (case hk113 => first | exact rfl | assumption); (case d113 => walk_at "dmx"); (case r113 => walk_at "rot"); (case hd113 => walk_at "hdx"); (case hu113 => walk_at "hux"); (case zz => exact Sy.Small.mono (small_atom hz) (by walk_at "ar")); intro S9 u9 hS9 h9 tk9 F9 N9 D9; replace N9 := News.perm List.perm_append_comm N9; replace D9 := Dm.perm List.perm_append_comm D9; (try simp only [List.cons_append, List.nil_append, List.append_nil, List.append_assoc] at N9 D9); (try k_sweep); (try dsimp only))
    refine sym_inst hS ?_; intro _ _ _ _ _ _ _ _ _ _ _ _ _ hi1 hi2
    (revert X; k_fill; intro X; refine wpAny_call ?_; k_dflt ktr_enter; walk_at "loc"; refine genT ?_; intro tk9)
    walk_at "st9"
    k_dflt (refine' iter_led (J := fun i m led => m (Str.ofString "symbols") = some (.ref sy) ∧ m (Str.ofString "name") = some (.str y t) ∧ ∃ la, m (Str.ofString "args") = some (.ref la) ∧
        ((i = 0 ∧ led = (la, listOf [].toArray 0) :: (S ++ (pa, tupO [.str x t'] k) :: R)) ∨ (i = 1 ∧ ∃ S1 d u t1 kk k1, SymAt w sy (σ.atom x) S1 ∧ led = (d, tupO [.str (Str.ofString "a") t1, .int (σ.anum x) u] k1) :: (la, listOf [.ref d].toArray kk) :: ((pa, tupO [.str x t'] k) :: (R ++ S1))))) ?hh71 ?F71 ?N71 ?D71 ?hlo71 (.inr rfl) ?hj71 ?hJl71 ?turn71 ?done71)
    (case hh71 => exact rfl)
    (case F71 => k_asm)
    (case N71 => k_asm)
    (case D71 => first | assumption | exact Dm.same2 (by assumption) (by first | rfl | assumption))
    (case hlo71 => k_mem)
    (case hj71 => exact ⟨by first | rfl | assumption, by first | rfl | assumption, _, by first | rfl | assumption, .inl ⟨rfl, rfl⟩⟩)
    (case hJl71 =>
      intro i m led hJ
      obtain ⟨_, _, la, _, ⟨_, e⟩ | ⟨_, _, _, _, _, _, _, _, e⟩⟩ := hJ
      · rw [e]; exact .tail _ (List.mem_append_right _ (.head _))
      · rw [e]; exact .tail _ (.tail _ (.head _)))
    · intro i v m₁ led₁ h tk I io hv hJ F1 N1 D1 hio; refine genK fun K9 hK9 => ?_
      obtain ⟨hm1, hm2, la, hm3, ⟨rfl, rfl⟩ | ⟨rfl, _⟩⟩ := hJ
      rotate_left
      · simp at hv
      simp only [List.getElem?_cons_zero, Option.some.injEq] at hv
      subst hv
      have hIla := ap_list (D1.cons_of.1 _ (.head _)) hio ncl
      k_sweep
      walk_at "st9"
      (refine hK9 _ _ ?_; refine' TurnQ.rot ?F8 ?N8 ?D8 ?r8 ?J8; (case F8 => k_asm); (case N8 => k_asm); (case D8 => walk_at "dm"); (case r8 => walk_at "rot"))
      (case J8 => exact ⟨hm1, hm2, la, hm3, .inr ⟨by first | rfl | trivial, S9, _, _, _, _, _, hS9, rfl⟩⟩)
    · intro m₁ led₁ h tk hJ F1 N1 D1
      obtain ⟨hm1, hm2, la, hm3, ⟨hi0, _⟩ | ⟨_, S1, d, u, t1, kk, k1, hS1, rfl⟩⟩ := hJ
      · exact absurd hi0 (by simp)
      refine sym_inst hS1 ?_; intro _ _ _ _ _ _ _ _ _ _ _ _ _ hi1 hi2
      k_sweep
      walk_at "st9"
      refine' outR (P := S9) (R := R) hret ?F116 ?N116 ?D116 ?r116 ?rrrr116 ?P; (case F116 => k_asm); (case N116 => k_asm); (case D116 => walk_at "dm"); (case r116 => walk_at "rot"); (case rrrr116 => walk_at "rot")
      (case P => exact formal1_R_mk S9 _ _ hS9 (le_atom.trans le_func) (dot_func (dot_atom hd0)) (small_func (small_atom hz)) ((anum_le le_func mem_atom).2) hasF_func.1 (.s1 (by have e2 : ((σ.atom x).func y ([Value.ref d].length : Nat)).fn y 1 = (σ.atom x).funcN y ([Value.ref d].length : Nat) := hasF_func.2; rw [e2]; exact .head _) (.tail _ (.head _)) (.at (by have e : ((σ.atom x).func y ([Value.ref d].length : Nat)).anum x = (σ.atom x).anum x := (anum_le le_func mem_atom).1; rw [e, anum_self]; exact .tail _ (.tail _ (.head _))))) rfl))) only [↓hidL]
end Mine
namespace Mine
open PySem PySem.Calls PyProof.Rows PySem.Spec
theorem news_ne {h₀ h : Heap} {L a b : Addr} {o o' : Obj} {l : Led} (N : News h₀ L h l) (ha : (a, o) ∈ l) (hb : (b, o') ∈ l) (hc : o.cls ≠ o'.cls) : @Ne Nat a b := fun e => by
  have h1 := (N _ ha).1
  have h2 := (N _ hb).1
  have e' : a = b := e
  subst e'
  have h3 : o = o' := Option.some.inj (h1.symm.trans h2)
  exact hc (by rw [h3])
def formal2_R_T (w : World) (sy : Addr) (tm : Tm) (σ : Sy) (R : Led) (n : Nat) (x y : Str) (K7 : Value → Led → Prop) : Prop := ∀ (r : Value), ∀ S', ∀ σ', ∀ J, SymAt w sy σ' S' → σ.Le σ' → σ'.Dot → σ'.Small (n + 2) → x ∈ σ'.texts → σ'.HasF y 2 → TmV J r (.s2 (σ'.fn y 2) (.at (σ'.anum x)) tm) → K7 (r) (S' ++ (J ++ R))
def formal2_R (w : World) (sy : Addr) (tm : Tm) (σ : Sy) (R : Led) (n : Nat) (x y : Str) (r : Value) (led' : Led) : Prop := ∀ K7 : Value → Led → Prop, formal2_R_T w sy tm σ R n x y K7 → K7 r led'
theorem formal2_R_mk {w : World} {sy : Addr} {tm : Tm} {σ : Sy} {R : Led} {n : Nat} {x y : Str} {r : Value} {led' : Led} : ∀ S', ∀ σ', ∀ J, SymAt w sy σ' S' → σ.Le σ' → σ'.Dot → σ'.Small (n + 2) → x ∈ σ'.texts → σ'.HasF y 2 → TmV J r (.s2 (σ'.fn y 2) (.at (σ'.anum x)) tm) → led' = S' ++ (J ++ R) → formal2_R w sy tm σ R n x y r led' := by
  intro _ _ _ a0 a1 a2 a3 a4 a5 a6 a7
  subst a7
  exact fun K7 k7 => k7 _ _ _ _ a0 a1 a2 a3 a4 a5 a6
theorem formal2_R_pt {w : World} {sy : Addr} {tm : Tm} {σ : Sy} {R : Led} {n : Nat} {x y : Str} (K7 : Value → Led → Prop) (k7 : formal2_R_T w sy tm σ R n x y K7) (r : Value) (led' : Led) (h7 : formal2_R w sy tm σ R n x y r led') : K7 r led' := h7 K7 k7
theorem formal2_tells {w : World} {sy pa c : Addr} {J0 : Led} {cv : List Value} {nc : Nat} {tm : Tm} {σ : Sy} {S R : Led} {n k : Nat} {x y : Str} {t t' : Tok} (hS : SymAt w sy σ S) (hd0 : σ.Dot) (hz : σ.Small n) (hn : n < 50000) (hc : (c, tupO cv nc) ∈ J0) (hv0 : TmV J0 (.ref c) tm) :
    Tells w 193 [.ref sy, .str y t, .ref pa] 4 (S ++ ([(pa, tupO [.str x t', .ref c] k)] ++ (J0 ++ R))) (formal2_R w sy tm σ R n x y) NoErr := by
  refine hidE ?_; simp (disch := k_dflt (
    refine hidW ?_
    intro dp un gd cn cs L a ccd cl outer A₀ base h₀ p loose mean mg mb m s Q E B F X N T hk dm hd hu hret hthr
    dsimp only [List.cons_append, List.nil_append] at N dm
    rename Option (List Code) => gd12Z; (k_with "ar2" => guard_hyp gd12Z; first | with_reducible exact om255 hn | with_reducible exact om256 hn | with_reducible exact om257 hi0 this)
    k_with "mine call" => guard_hyp gd12Z; first
      | k_dflt (refine' go1n (e := atom_R_pt) (atom_tells (by assumption) ?z) ?B118 ?F118 ?X118 ?N118 ?T118 ?hk118 ?d118 ?r118 ?hd118 ?hu118 ?_; (case B118 => k_asm); (case F118 => k_asm); (case X118 => k_asm); (case N118 => k_asm); (case T118 => k_asm); (case hk118 => first | exact rfl | assumption); (case d118 => walk_at "dmx"); (case r118 => walk_at "rot"); (case hd118 => walk_at "hdx"); (case hu118 => walk_at "hux"); (case z => exact Sy.Small.mono (by assumption) (by walk_at "ar")); intro S9 u9 hS9 h9 tk9 F9 N9 D9; replace N9 := News.perm List.perm_append_comm N9; replace D9 := Dm.perm List.perm_append_comm D9; (try simp only [List.cons_append, List.nil_append, List.append_nil, List.append_assoc] at N9 D9); (try k_sweep); (try dsimp only); refine sym_inst hS9 ?_; intro _ _ _ _ _ _ _ _ _ _ _ _ _ hi1 hi2)
      | k_dflt (refine' go1n (e := func_R_pt) (func_tells (by assumption) ?zz) ?B120 ?F120 ?X120 ?N120 ?T120 ?hk120 ?d120 ?r120 ?hd120 ?hu120 ?_; (case B120 => k_asm); (case F120 => k_asm); (case X120 => k_asm); (case N120 => k_asm); (case T120 => k_asm); (case hk120 => first | exact rfl | assumption); (case d120 => walk_at "dmx"); (case r120 => walk_at "rot"); (case hd120 => walk_at "hdx"); (case hu120 => walk_at "hux"); (case zz => exact Sy.Small.mono (small_atom hz) (by walk_at "ar")); intro S9 u9 hS9 h9 tk9 F9 N9 D9; replace N9 := News.perm List.perm_append_comm N9; replace D9 := Dm.perm List.perm_append_comm D9; (try simp only [List.cons_append, List.nil_append, List.append_nil, List.append_assoc] at N9 D9); (try k_sweep); (try dsimp only))
    refine sym_inst hS ?_; intro _ _ _ _ _ _ _ _ _ _ _ _ _ hi1 hi2
    (revert X; k_fill; intro X; refine wpAny_call ?_; k_dflt ktr_enter; walk_at "loc"; refine genT ?_; intro tk9)
    walk_at "st9"
    k_dflt (refine' iter_led (J := fun i m led => m (Str.ofString "symbols") = some (.ref sy) ∧ m (Str.ofString "name") = some (.str y t) ∧ ∃ la, m (Str.ofString "args") = some (.ref la) ∧
        ((i = 0 ∧ led = (la, listOf [].toArray 0) :: (S ++ (pa, tupO [.str x t', .ref c] k) :: (J0 ++ R))) ∨ (0 < i ∧ ∃ S1 d u t1 kk k1, SymAt w sy (σ.atom x) S1 ∧ led = (d, tupO [.str (Str.ofString "a") t1, .int (σ.anum x) u] k1) :: (la, listOf (if i = 1 then [.ref d] else [.ref d, .ref c]).toArray kk) :: ((pa, tupO [.str x t', .ref c] k) :: (J0 ++ (R ++ S1)))))) ?hh71 ?F71 ?N71 ?D71 ?hlo71 (.inr rfl) ?hj71 ?hJl71 ?turn71 ?done71)
    (case hh71 => exact rfl)
    (case F71 => k_asm)
    (case N71 => k_asm)
    (case D71 => first | assumption | exact Dm.same2 (by assumption) (by first | rfl | assumption))
    (case hlo71 => k_mem)
    (case hj71 => exact ⟨by first | rfl | assumption, by first | rfl | assumption, _, by first | rfl | assumption, .inl ⟨rfl, rfl⟩⟩)
    (case hJl71 =>
      intro i m led hJ
      obtain ⟨_, _, la, _, ⟨_, e⟩ | ⟨_, _, _, _, _, _, _, _, e⟩⟩ := hJ
      · rw [e]; exact .tail _ (List.mem_append_right _ (.head _))
      · rw [e]; exact .tail _ (.tail _ (.head _)))
    · intro i v m₁ led₁ h tk I io hv hJ F1 N1 D1 hio; refine genK fun K9 hK9 => ?_
      obtain ⟨hm1, hm2, la, hm3, ⟨rfl, rfl⟩ | ⟨hi0, S1, d, u, t1, kk, k1, hS1, rfl⟩⟩ := hJ
      rotate_left
      · have hi1 : i = 1 := by
          have := (List.getElem?_eq_some_iff.mp hv).1
          simp only [List.length_cons, List.length_nil] at this; walk_at "ar"
        subst hi1
        simp only [List.getElem?_cons_succ, List.getElem?_cons_zero, Option.some.injEq] at hv
        subst hv
        rw [if_pos rfl] at N1 D1
        have hIla := ap_list (D1.cons_of.1 _ (.tail _ (.head _))) hio ncl
        have hdla := news_ne N1 (.tail _ (.head _)) (.tail _ (.tail _ (.head _))) (fun e => ncl e.symm)
        have hcm : (c, tupO cv nc) ∈ (I, io) :: (d, tupO [.str (Str.ofString "a") t1, .int (σ.anum x) u] k1) :: (la, listOf [.ref d].toArray kk) :: ((pa, tupO [.str x t', .ref c] k) :: (J0 ++ (R ++ S1))) := .tail _ (.tail _ (.tail _ (.tail _ (List.mem_append_left _ hc))))
        k_sweep
        walk_at "st9"
        (refine hK9 _ _ ?_; refine' TurnQ.rot ?F9 ?N9 ?D9 ?r9 ?J9; (case F9 => k_asm); (case N9 => k_asm); (case D9 => walk_at "dm"); (case r9 => walk_at "rot"))
        (case J9 => exact ⟨hm1, hm2, la, hm3, .inr ⟨by first | walk_at "ar" | trivial, S1, _, _, _, _, _, hS1, rfl⟩⟩)
      simp only [List.getElem?_cons_zero, Option.some.injEq] at hv
      subst hv
      have hIla := ap_list (D1.cons_of.1 _ (.head _)) hio ncl
      k_sweep
      walk_at "st9"
      (refine hK9 _ _ ?_; refine' TurnQ.rot ?F8 ?N8 ?D8 ?r8 ?J8; (case F8 => k_asm); (case N8 => k_asm); (case D8 => walk_at "dm"); (case r8 => walk_at "rot"))
      (case J8 => exact ⟨hm1, hm2, la, hm3, .inr ⟨by first | walk_at "ar" | trivial, S9, _, _, _, _, _, hS9, rfl⟩⟩)
    · intro m₁ led₁ h tk hJ F1 N1 D1
      obtain ⟨hm1, hm2, la, hm3, ⟨hi0, _⟩ | ⟨_, S1, d, u, t1, kk, k1, hS1, rfl⟩⟩ := hJ
      · exact absurd hi0 (by simp)
      rw [if_neg (by simp)] at N1 D1
      refine sym_inst hS1 ?_; intro _ _ _ _ _ _ _ _ _ _ _ _ _ hi1 hi2
      k_sweep
      walk_at "st9"
      refine' outR (P := S9) (R := R) hret ?F123 ?N123 ?D123 ?r123 ?rrrr123 ?P; (case F123 => k_asm); (case N123 => k_asm); (case D123 => walk_at "dm"); (case r123 => walk_at "rot"); (case rrrr123 => walk_at "rot")
      (case P => exact formal2_R_mk S9 _ _ hS9 (le_atom.trans le_func) (dot_func (dot_atom hd0)) (small_func (small_atom hz)) ((anum_le le_func mem_atom).2) hasF_func.1 (.s2 (by have e2 : ((σ.atom x).func y ([Value.ref d, Value.ref c].length : Nat)).fn y 2 = (σ.atom x).funcN y ([Value.ref d, Value.ref c].length : Nat) := hasF_func.2; rw [e2]; exact .head _) (.tail _ (.head _))
          (.at (by have e : ((σ.atom x).func y ([Value.ref d, Value.ref c].length : Nat)).anum x = (σ.atom x).anum x := (anum_le le_func mem_atom).1; rw [e, anum_self]; exact .tail _ (.tail _ (.head _)))) (hv0.mono (Inc.mem (by walk_at "inc")))) rfl))) only [↓hidL]
end Mine
namespace Mine
open PySem PySem.Calls PyProof.Rows PySem.Spec
theorem mem_tells {w : World} {sy : Addr} {σ : Sy} {S R : Led} {n : Nat} {t : Tok} (hS : SymAt w sy σ S) (hd0 : σ.Dot) (hz : σ.Small n) (hn : n < 50000) :
    Tells w 221 [.ref sy, .str (Str.ofString "memory") t] 6 (S ++ R) (ErrRet w sy σ n .mem R) NoErr := by
  refine hidE ?_; simp (disch := k_dflt (
    refine hidW ?_
    intro dp un gd cn cs L a ccd cl outer A₀ base h₀ p loose mean mg mb m s Q E B F X N T hk dm hd hu hret hthr
    rename Option (List Code) => gd13Z
    k_with "mine call" => guard_hyp gd13Z; first
      | k_dflt (refine' go2n (e := formal1_R_pt) (formal1_tells (by assumption) (by assumption) (by assumption) (by walk_at "ar")) ?B125 ?F125 ?X125 ?N125 ?T125 ?hk125 ?d125 ?r125 ?rr125 ?hd125 ?hu125 ?_; (case B125 => k_asm); (case F125 => k_asm); (case X125 => k_asm); (case N125 => k_asm); (case T125 => k_asm); (case hk125 => first | exact rfl | assumption); (case d125 => walk_at "dmx"); (case r125 => walk_at "rot"); (case rr125 => walk_at "rot"); (case hd125 => walk_at "hdx"); (case hu125 => walk_at "hux"); intro r9 S9 σ9 J9 hS9 hle9 hD9 hsm9 hx9 hF9 hv9 h9 tk9 F9 N9 D9; replace N9 := News.perm backJ1 N9; replace D9 := Dm.perm backJ1 D9; (try simp only [List.cons_append, List.nil_append, List.append_nil, List.append_assoc] at N9 D9); (try k_sweep); (try dsimp only))
      | k_dflt (refine' go0n (e := sys_R_pt) sys_tells ?B127 ?F127 ?X127 ?N127 ?T127 ?hk127 ?d127 ?hd127 ?hu127 ?_; (case B127 => k_asm); (case F127 => k_asm); (case X127 => k_asm); (case N127 => k_asm); (case T127 => k_asm); (case hk127 => first | exact rfl | assumption); (case d127 => walk_at "dmx"); (case hd127 => walk_at "hdx"); (case hu127 => walk_at "hux"); intro e9 dx9 t9 hs9 k9 b9 c9 d9 n1 n2 n3 n4 t1 t2 t3 t4 h9 tk9 F9 N9 D9; (try k_sweep); (try dsimp only))
    refine sym_inst hS ?_; intro _ _ _ _ _ _ _ _ _ _ _ _ _ hi1 hi2
    (revert X; k_fill; intro X; refine wpAny_call ?_; k_dflt ktr_enter; walk_at "loc"; refine genT ?_; intro tk9)
    walk_at "st9"
    refine' out3R (P := S9) (P2 := [(dx9, _)]) (P3 := [(e9, _)]) (R := R) hret ?F129 ?N129 ?D129 ?r129 ?rr129 ?rrr129 ?rrrr129 ?P; (case F129 => k_asm); (case N129 => k_asm); (case D129 => walk_at "dm"); (case r129 => walk_at "rot"); (case rr129 => walk_at "rot"); (case rrr129 => walk_at "rot"); (case rrrr129 => walk_at "rot")
    (case P => exact ⟨S9, σ9, _, _, _, _, _, _, _, hS9, hle9, hD9, hsm9, ⟨hx9, hF9⟩, .s2 (.tail _ (.head _)) (.tail _ (.tail _ (.head _))) (hv9.mono (Inc.mem (by walk_at "inc"))) (.at (.tail _ (.tail _ (.tail _ (.head _))))), rfl, rfl⟩))) only [↓hidL]
theorem zero_tells {w : World} {sy : Addr} {σ : Sy} {S R : Led} {n : Nat} {t : Tok} (hS : SymAt w sy σ S) (hd0 : σ.Dot) (hz : σ.Small n) (hn : n < 50000) :
    Tells w 214 [.ref sy, .str (Str.ofString "zero_divisor") t] 6 (S ++ R) (ErrRet w sy σ n .zero R) NoErr := by
  refine hidE ?_; simp (disch := k_dflt (
    refine hidW ?_
    intro dp un gd cn cs L a ccd cl outer A₀ base h₀ p loose mean mg mb m s Q E B F X N T hk dm hd hu hret hthr
    rename Option (List Code) => gd14Z
    k_with "mine call" => guard_hyp gd14Z; first
      | k_dflt (refine' go2n (e := formal1_R_pt) (formal1_tells (by assumption) (by assumption) (by assumption) (by walk_at "ar")) ?B131 ?F131 ?X131 ?N131 ?T131 ?hk131 ?d131 ?r131 ?rr131 ?hd131 ?hu131 ?_; (case B131 => k_asm); (case F131 => k_asm); (case X131 => k_asm); (case N131 => k_asm); (case T131 => k_asm); (case hk131 => first | exact rfl | assumption); (case d131 => walk_at "dmx"); (case r131 => walk_at "rot"); (case rr131 => walk_at "rot"); (case hd131 => walk_at "hdx"); (case hu131 => walk_at "hux"); intro r9 S9 σ9 J9 hS9 hle9 hD9 hsm9 hx9 hF9 hv9 h9 tk9 F9 N9 D9; replace N9 := News.perm backJ1 N9; replace D9 := Dm.perm backJ1 D9; (try simp only [List.cons_append, List.nil_append, List.append_nil, List.append_assoc] at N9 D9); (try k_sweep); (try dsimp only))
      | k_dflt (refine' go0n (e := sys_R_pt) sys_tells ?B133 ?F133 ?X133 ?N133 ?T133 ?hk133 ?d133 ?hd133 ?hu133 ?_; (case B133 => k_asm); (case F133 => k_asm); (case X133 => k_asm); (case N133 => k_asm); (case T133 => k_asm); (case hk133 => first | exact rfl | assumption); (case d133 => walk_at "dmx"); (case hd133 => walk_at "hdx"); (case hu133 => walk_at "hux"); intro e9 dx9 t9 hs9 k9 b9 c9 d9 n1 n2 n3 n4 t1 t2 t3 t4 h9 tk9 F9 N9 D9; (try k_sweep); (try dsimp only))
    refine sym_inst hS ?_; intro _ _ _ _ _ _ _ _ _ _ _ _ _ hi1 hi2
    (revert X; k_fill; intro X; refine wpAny_call ?_; k_dflt ktr_enter; walk_at "loc"; refine genT ?_; intro tk9)
    walk_at "st9"
    refine' out3R (P := S9) (P2 := [(dx9, _)]) (P3 := [(e9, _)]) (R := R) hret ?F135 ?N135 ?D135 ?r135 ?rr135 ?rrr135 ?rrrr135 ?P; (case F135 => k_asm); (case N135 => k_asm); (case D135 => walk_at "dm"); (case r135 => walk_at "rot"); (case rr135 => walk_at "rot"); (case rrr135 => walk_at "rot"); (case rrrr135 => walk_at "rot")
    (case P => exact ⟨S9, σ9, _, _, _, _, _, _, _, hS9, hle9, hD9, hsm9, ⟨hx9, hF9⟩, .s2 (.tail _ (.head _)) (.tail _ (.tail _ (.head _))) (hv9.mono (Inc.mem (by walk_at "inc"))) (.at (.tail _ (.tail _ (.tail _ (.head _))))), rfl, rfl⟩))) only [↓hidL]
theorem type_tells {w : World} {sy c : Addr} {σ : Sy} {S R J0 : Led} {n nc : Nat} {t : Tok} {x : Str} {cv : List Value} {tm : Tm} {er : Er} (hS : SymAt w sy σ S) (hd0 : σ.Dot) (hz : σ.Small n) (hn : n < 50000) (hc : (c, tupO cv nc) ∈ J0) (hv0 : TmV J0 (.ref c) tm)
    (hb : ∀ σ', er.ball σ' = .s2 16 (.s2 (σ'.fn (Str.ofString "type_error") 2) (.at (σ'.anum x)) tm) (.at 25)) (hkn : ∀ σ', x ∈ σ'.texts → σ'.HasF (Str.ofString "type_error") 2 → er.Known σ') :
    Tells w 207 [.ref sy, .str x t, .ref c] 6 (S ++ (J0 ++ R)) (ErrRet w sy σ n er R) NoErr := by
  refine hidE ?_; simp (disch := k_dflt (
    refine hidW ?_
    intro dp un gd cn cs L a ccd cl outer A₀ base h₀ p loose mean mg mb m s Q E B F X N T hk dm hd hu hret hthr
    rename Option (List Code) => gd15Z
    k_with "mine call" => guard_hyp gd15Z; first
      | k_dflt (refine' go3n (e := formal2_R_pt) (formal2_tells (by assumption) (by assumption) (by assumption) (by walk_at "ar") hc hv0) ?B137 ?F137 ?X137 ?N137 ?T137 ?hk137 ?d137 ?r137 ?rr137 ?rrr137 ?hd137 ?hu137 ?_; (case B137 => k_asm); (case F137 => k_asm); (case X137 => k_asm); (case N137 => k_asm); (case T137 => k_asm); (case hk137 => first | exact rfl | assumption); (case d137 => walk_at "dmx"); (case r137 => walk_at "rot"); (case rr137 => walk_at "rot"); (case rrr137 => walk_at "rot"); (case hd137 => walk_at "hdx"); (case hu137 => walk_at "hux"); intro r9 S9 σ9 J9 hS9 hle9 hD9 hsm9 hx9 hF9 hv9 h9 tk9 F9 N9 D9; replace N9 := News.perm backJ1 N9; replace D9 := Dm.perm backJ1 D9; (try simp only [List.cons_append, List.nil_append, List.append_nil, List.append_assoc] at N9 D9); (try k_sweep); (try dsimp only))
      | k_dflt (refine' go0n (e := sys_R_pt) sys_tells ?B139 ?F139 ?X139 ?N139 ?T139 ?hk139 ?d139 ?hd139 ?hu139 ?_; (case B139 => k_asm); (case F139 => k_asm); (case X139 => k_asm); (case N139 => k_asm); (case T139 => k_asm); (case hk139 => first | exact rfl | assumption); (case d139 => walk_at "dmx"); (case hd139 => walk_at "hdx"); (case hu139 => walk_at "hux"); intro e9 dx9 t9 hs9 k9 b9 c9 d9 n1 n2 n3 n4 t1 t2 t3 t4 h9 tk9 F9 N9 D9; (try k_sweep); (try dsimp only))
    refine sym_inst hS ?_; intro _ _ _ _ _ _ _ _ _ _ _ _ _ hi1 hi2
    (revert X; k_fill; intro X; refine wpAny_call ?_; k_dflt ktr_enter; walk_at "loc"; refine genT ?_; intro tk9)
    walk_at "st9"
    refine' out3R (P := S9) (P2 := [(dx9, _)]) (P3 := [(e9, _)]) (R := R) hret ?F141 ?N141 ?D141 ?r141 ?rr141 ?rrr141 ?rrrr141 ?P; (case F141 => k_asm); (case N141 => k_asm); (case D141 => walk_at "dm"); (case r141 => walk_at "rot"); (case rr141 => walk_at "rot"); (case rrr141 => walk_at "rot"); (case rrrr141 => walk_at "rot")
    (case P => exact ⟨S9, σ9, _, _, _, _, _, _, _, hS9, hle9, hD9, hsm9, hkn _ hx9 hF9, by rw [hb]; exact .s2 (.tail _ (.head _)) (.tail _ (.tail _ (.head _))) (hv9.mono (Inc.mem (by walk_at "inc"))) (.at (.tail _ (.tail _ (.tail _ (.head _))))), rfl, rfl⟩))) only [↓hidL]
end Mine
namespace Mine
open PySem PySem.Calls PyProof.Rows PySem.Spec
theorem news_get {h₀ h : Heap} {L a : Addr} {o : Obj} {l : Led} (N : News h₀ L h l) (hm : (a, o) ∈ l) : h.get? a = some o := (N _ hm).1
theorem leave1R {M : Model} {A : Around} {E : Value → Shared → Prop} {s' : Shared} {base g : Heap} {outer : List Env} {L a e t dx : Addr} {m : Str → Option Value} {name : Str} {scope : Scope} {cd : Value} {Q : Unit → Shared → Prop} {led R : Led} (K : Below A base outer g) (F : Fr g L s'.heap m) (N : News g L s'.heap led) (d : Dm led) (r : Rot [(e, excObj dx t)] led R)
    (hQ : ∀ h', Rz base outer e dx R h' → Dm R → g.UpToSlots h' → Q () { s' with heap := h' }) (hk : scope.kind = .function := by rfl) :
    wpAny M (A.deeper (envOf name scope L a cd)) (leaving (envOf name scope L a cd) (.ref e)) Q E s' :=
  have N' := News.perm r.perm N
  have d' : Dm ((e, excObj dx t) :: R) := Dm.perm r.perm d
  leave1 K F N' (off_of N' (.head _) nci (fun _ hq => .tail _ hq) d'.cons_of.1) (fun h' R' U' => hQ h' R' d'.cons_of.2 U') hk
theorem keeps_in {K : Frag} {h₀ h : Heap} {L : Addr} {m : Str → Option Value} (X : K.In h₀) (F : Fr h₀ L h m) : K.In h := X.keeps F.keep
end Mine
theorem Mine.wd61 : True := by
  (k_with "W exec Raise some none" => (k_here; (with_reducible show wpAny _ _ (exec (Stmt.Raise (some _) none _) _) _ _ _); k_dflt (refine' Mine.raise_pe ?hhW61 ?_; (case hhW61 => first | rfl | assumption); k_whole)))
  (k_with "W Exists" => (refine' ⟨_, _, _, rfl, ?kXW62, ?kMW62, ?_⟩; (case kXW62 => exact Mine.keeps_in (by k_asm) (by k_asm)); (case kMW62 => (refine' Mine.news_get ?kNW62 ?kkW62; (case kNW62 => k_asm); (case kkW62 => k_mem))); k_whole))
  (k_with "W leaving ref" => (k_here; k_dflt (refine' Mine.leave1R ?k1W63 ?k2W63 ?k3W63 ?kdW63 ?k4W63 ?_; (case k1W63 => assumption); (case k2W63 => k_asm); (case k3W63 => k_asm); (case kdW63 => walk_at "dm"); (case k4W63 => walk_at "rot"); k_whole); intro hZ9 RZ9 DZ9 UZ9; (try dsimp only at RZ9 UZ9 ⊢)))
  trivial
namespace Mine
open PySem PySem.Calls PyProof.Rows PySem.Spec
/-- the error er flies: its dict holds the ball -/
inductive ErrAt (w : World) (sy : Addr) (σ : Sy) (n : Nat) (er : Er) (R : Led) (dx : Addr) (led' : Led) : Prop
  | mk : ∀ S', ∀ σ', ∀ hs, ∀ k, ∀ v, ∀ J, SymAt w sy σ' S' → σ.Le σ' → σ'.Dot → σ'.Small (n + 2) → er.Known σ' → TmV J v (er.ball σ') → led' = S' ++ ((dx, ballD hs k v) :: (J ++ R)) → ErrAt w sy σ n er R dx led'
end Mine
namespace Mine
open PySem PySem.Calls PyProof.Rows PySem.Spec
theorem mul_mine {prog : Program} {w : World} {A : Around} {E : Value → Shared → Prop} {s : Shared} {a b : Int} {t u : Tok} {Q : Value → Shared → Prop} {m n : Nat} (ha : Builtin.Int.intBits a ≤ m) (hb : Builtin.Int.intBits b ≤ n) (hmn : m + n ≤ 1000) (h : Q (.int (a * b) s.toks) { s with toks := s.toks + 1 }) :
    wpAny (model prog w) A (binaryOp .Mult (.int a t) (.int b u)) Q E s := by
  refine PyProof.Rows.mul_int h ?_
  unfold IntMulOk Builtin.Int.intTooBig
  have hl : bitsLine = 134217728 := rfl
  simp only [Bool.and_eq_true, decide_eq_true_eq, not_and, hl]
  intro _ _
  omega
theorem bits_two {a : Int} (h2 : a ≠ 1) (h3 : a ≠ -1) (h4 : a ≠ 0) : 2 ≤ Builtin.Int.intBits a := by
  rcases Nat.lt_or_ge (Builtin.Int.intBits a) 2 with h | h
  · have := intBits_le_iff.mp (Nat.le_of_lt_succ h)
    (first | with_reducible exact (om197 h2 h3 h4 this).elim | omega)
  · exact h
theorem pow_mine {prog : Program} {w : World} {A : Around} {E : Value → Shared → Prop} {s : Shared} {a n mx : Int} {t u : Tok} {Q : Value → Shared → Prop} (h1 : ¬ n < 0) (h2 : a ≠ 1) (h3 : a ≠ -1) (h4 : a ≠ 0) (h5 : ¬ mx ≤ ((Builtin.Int.intBits a : Int) - 1) * n) (h6 : mx < 100) (h7 : Builtin.Int.intBits a ≤ 70)
    (h : Q (.int (a ^ n.toNat) s.toks) { s with toks := s.toks + 1 }) : wpAny (model prog w) A (binaryOp .Pow (.int a t) (.int n u)) Q E s := by
  have hb := bits_two h2 h3 h4
  have hn : n < 100 := by
    have : n ≤ ((Builtin.Int.intBits a : Int) - 1) * n := by
      have h8 : (1 : Int) * n ≤ ((Builtin.Int.intBits a : Int) - 1) * n := Int.mul_le_mul_of_nonneg_right (by (first | with_reducible exact om90 h1 | with_reducible exact om191 hn this | with_reducible exact om192 h8 | with_reducible exact om193 h5 h6 this | with_reducible exact om194 hb | with_reducible exact om198 h7 | omega)) (by (first | with_reducible exact om90 h1 | with_reducible exact om191 hn this | with_reducible exact om192 h8 | with_reducible exact om193 h5 h6 this | with_reducible exact om194 hb | with_reducible exact om198 h7 | omega))
      (first | with_reducible exact om90 h1 | with_reducible exact om191 hn this | with_reducible exact om192 h8 | with_reducible exact om193 h5 h6 this | with_reducible exact om194 hb | with_reducible exact om198 h7 | omega)
    (first | with_reducible exact om90 h1 | with_reducible exact om191 hn this | with_reducible exact om192 h8 | with_reducible exact om193 h5 h6 this | with_reducible exact om194 hb | with_reducible exact om198 h7 | omega)
  refine pow_int (by (first | with_reducible exact om90 h1 | with_reducible exact om191 hn this | with_reducible exact om192 h8 | with_reducible exact om193 h5 h6 this | with_reducible exact om194 hb | with_reducible exact om198 h7 | omega)) ?_ h
  have : (Builtin.Int.intBits a : Int) * n ≤ 70 * n := Int.mul_le_mul_of_nonneg_right (by (first | with_reducible exact om90 h1 | with_reducible exact om191 hn this | with_reducible exact om192 h8 | with_reducible exact om193 h5 h6 this | with_reducible exact om194 hb | with_reducible exact om198 h7 | omega)) (by (first | with_reducible exact om90 h1 | with_reducible exact om191 hn this | with_reducible exact om192 h8 | with_reducible exact om193 h5 h6 this | with_reducible exact om194 hb | with_reducible exact om198 h7 | omega))
  (first | with_reducible exact om90 h1 | with_reducible exact om191 hn this | with_reducible exact om192 h8 | with_reducible exact om193 h5 h6 this | with_reducible exact om194 hb | with_reducible exact om198 h7 | omega)
end Mine
theorem Mine.wd64 : True := by
  (k_with "bits" => first | with_reducible assumption | (refine' intBits_sub_le ?baW64 ?bbW64; (case baW64 => walk_at "bits"); case bbW64 => walk_at "bits") | exact intBits_le_64 (by walk_at "ar") (by walk_at "ar"))
  (k_with "W binaryOp Mult int int" => (k_here; k_dflt (refine' Mine.mul_mine ?maW65 ?mbW65 ?mcW65 ?_; (case maW65 => walk_at "bits"); (case mbW65 => walk_at "bits"); (case mcW65 => walk_at "ar"); k_whole)))
  (k_with "W binaryOp Pow int int" => (k_here; k_dflt (refine' Mine.pow_mine ?p1W66 ?p2W66 ?p3W66 ?p4W66 ?p5W66 ?p6W66 ?p7W66 ?_; (case p1W66 => assumption); (case p2W66 => assumption); (case p3W66 => assumption); (case p4W66 => assumption); (case p5W66 => assumption); (case p6W66 => assumption); (case p7W66 => assumption); k_whole)))
  trivial
namespace Mine
def integer_R_T (R : Led) (i : Int) (t : Tok) (K7 : Value → Led → Prop) : Prop := ∀ a, ∀ n, ∀ t1, K7 (.ref a) ([(a, tupO [.str (Str.ofString "i") t1, .int i t] n)] ++ R)
def integer_R (R : Led) (i : Int) (t : Tok) (r : Value) (led' : Led) : Prop := ∀ K7 : Value → Led → Prop, integer_R_T R i t K7 → K7 r led'
theorem integer_R_mk {R : Led} {i : Int} {t : Tok} {r : Value} {led' : Led} : ∀ a, ∀ n, ∀ t1, r = .ref a → led' = [(a, tupO [.str (Str.ofString "i") t1, .int i t] n)] ++ R → integer_R R i t r led' := by
  intro _ _ _ a0 a1
  subst a0
  subst a1
  exact fun K7 k7 => k7 _ _ _
theorem integer_R_pt {R : Led} {i : Int} {t : Tok} (K7 : Value → Led → Prop) (k7 : integer_R_T R i t K7) (r : Value) (led' : Led) (h7 : integer_R R i t r led') : K7 r led' := h7 K7 k7
theorem integer_tells {w : World} {R : Led} {i : Int} {t : Tok} : Tells w 172 [.int i t] 1 R (integer_R R i t) NoErr := by
  intro dp un gd cn cs L a ccd cl outer A₀ base h₀ p loose mean mg mb m s Q E B F X N T hk dm hd hu hret hthr
  rename Option (List Code) => gd16Z
  (revert X; k_fill; intro X; refine wpAny_call ?_; k_dflt ktr_enter; walk_at "loc"; refine genT ?_; intro tk9)
  walk_at "st9"
  refine' hret _ _ _ _ ?F ?N ?D ?P
  (case F => k_asm)
  (case N => k_asm)
  (case D => walk_at "dm")
  (case P => exact integer_R_mk _ _ _ rfl rfl)
def tatom_R_T (R : Led) (i : Int) (t : Tok) (K7 : Value → Led → Prop) : Prop := ∀ a, ∀ n, ∀ t1, K7 (.ref a) ([(a, tupO [.str (Str.ofString "a") t1, .int i t] n)] ++ R)
def tatom_R (R : Led) (i : Int) (t : Tok) (r : Value) (led' : Led) : Prop := ∀ K7 : Value → Led → Prop, tatom_R_T R i t K7 → K7 r led'
theorem tatom_R_mk {R : Led} {i : Int} {t : Tok} {r : Value} {led' : Led} : ∀ a, ∀ n, ∀ t1, r = .ref a → led' = [(a, tupO [.str (Str.ofString "a") t1, .int i t] n)] ++ R → tatom_R R i t r led' := by
  intro _ _ _ a0 a1
  subst a0
  subst a1
  exact fun K7 k7 => k7 _ _ _
theorem tatom_R_pt {R : Led} {i : Int} {t : Tok} (K7 : Value → Led → Prop) (k7 : tatom_R_T R i t K7) (r : Value) (led' : Led) (h7 : tatom_R R i t r led') : K7 r led' := h7 K7 k7
theorem tatom_tells {w : World} {R : Led} {i : Int} {t : Tok} : Tells w 165 [.int i t] 1 R (tatom_R R i t) NoErr := by
  intro dp un gd cn cs L a ccd cl outer A₀ base h₀ p loose mean mg mb m s Q E B F X N T hk dm hd hu hret hthr
  rename Option (List Code) => gd17Z
  (revert X; k_fill; intro X; refine wpAny_call ?_; k_dflt ktr_enter; walk_at "loc"; refine genT ?_; intro tk9)
  walk_at "st9"
  refine' hret _ _ _ _ ?F ?N ?D ?P
  (case F => k_asm)
  (case N => k_asm)
  (case D => walk_at "dm")
  (case P => exact tatom_R_mk _ _ _ rfl rfl)
/-- power: what it gives, or the error -/
noncomputable def powE (b e mx : Int) : Except Er Int :=
  if b = 1 then .ok 1 else if b = -1 then (if e.fmod 2 = 0 then .ok 1 else .ok (-1)) else if e < 0 then .error (.float b) else if e = 0 then .ok 1 else if b = 0 then .ok 0
  else if mx ≤ ((Builtin.Int.intBits b : Int) - 1) * e then .error .mem else .ok (b ^ e.toNat)
def power_R_T (S R : Led) (b e mx : Int) (K7 : Value → Led → Prop) : Prop := ∀ v, ∀ u, powE b e mx = .ok v → K7 (.int v u) (S ++ R)
def power_R (S R : Led) (b e mx : Int) (r : Value) (led' : Led) : Prop := ∀ K7 : Value → Led → Prop, power_R_T S R b e mx K7 → K7 r led'
theorem power_R_mk {S R : Led} {b e mx : Int} {r : Value} {led' : Led} : led' = S ++ R → ∀ v, ∀ u, r = .int v u → powE b e mx = .ok v → power_R S R b e mx r led' := by
  intro a0 _ _ a1 a2
  subst a0
  subst a1
  exact fun K7 k7 => k7 _ _ a2
theorem power_R_pt {S R : Led} {b e mx : Int} (K7 : Value → Led → Prop) (k7 : power_R_T S R b e mx K7) (r : Value) (led' : Led) (h7 : power_R S R b e mx r led') : K7 r led' := h7 K7 k7
theorem power_tells {w : World} {sy : Addr} {σ : Sy} {S R : Led} {n : Nat} {b e mx : Int} {t t' t2 : Tok} (hS : SymAt w sy σ S) (hd0 : σ.Dot) (hz : σ.Small n) (hn : n < 50000) (hb : Builtin.Int.intBits b ≤ 70) (he : Builtin.Int.intBits e ≤ 70) (hmx : mx < 100) :
    Tells w 483 [.ref sy, .int b t, .int e t', .int mx t2] 8 (S ++ R) (power_R S R b e mx) (fun dx led' => ∃ er, powE b e mx = .error er ∧ ErrAt w sy σ n er R dx led') := by
  refine hidE ?_; simp (disch := k_dflt (
    refine hidW ?_
    intro dp un gd cn cs L a ccd cl outer A₀ base h₀ p loose mean mg mb m s Q E B F X N T hk dm hd hu hret hthr
    rename Option (List Code) => gd18Z; (k_with "ar2" => guard_hyp gd18Z; first | with_reducible exact om195 hb | with_reducible exact om196)
    k_with "mine call" => guard_hyp gd18Z; first
      | k_dflt (refine' go1n (e := ErrRet_pt) (mem_tells (by assumption) (by assumption) (by assumption) (by assumption)) ?B147 ?F147 ?X147 ?N147 ?T147 ?hk147 ?d147 ?r147 ?hd147 ?hu147 ?_; (case B147 => k_asm); (case F147 => k_asm); (case X147 => k_asm); (case N147 => k_asm); (case T147 => k_asm); (case hk147 => first | exact rfl | assumption); (case d147 => walk_at "dmx"); (case r147 => walk_at "rot"); (case hd147 => walk_at "hdx"); (case hu147 => walk_at "hux"); intro S9 σ9 e9 dx9 t9 hs9 k9 v9 J9 hS9 hle9 hD9 hsm9 hK9 hv9 h9 tk9 F9 N9 D9; (try k_sweep); (try dsimp only))
      | k_dflt (refine' go0n (e := integer_R_pt) integer_tells ?B148 ?F148 ?X148 ?N148 ?T148 ?hk148 ?d148 ?hd148 ?hu148 ?_; (case B148 => k_asm); (case F148 => k_asm); (case X148 => k_asm); (case N148 => k_asm); (case T148 => k_asm); (case hk148 => first | exact rfl | assumption); (case d148 => walk_at "dmx"); (case hd148 => walk_at "hdx"); (case hu148 => walk_at "hux"); intro i9 n9 t9 h9 tk9 F9 N9 D9; (try dsimp only [List.cons_append, List.nil_append] at N9 D9); (try k_sweep); (try dsimp only))
      | k_dflt (refine' go2n (e := ErrRet_pt) (type_tells (J0 := [(_, _)]) (er := .float b) (by assumption) (by assumption) (by assumption) (by assumption) (.head _) (.num (.head _)) (fun _ => rfl) (fun _ a b => ⟨a, b⟩)) ?B149 ?F149 ?X149 ?N149 ?T149 ?hk149 ?d149 ?r149 ?rr149 ?hd149 ?hu149 ?_; (case B149 => k_asm); (case F149 => k_asm); (case X149 => k_asm); (case N149 => k_asm); (case T149 => k_asm); (case hk149 => first | exact rfl | assumption); (case d149 => walk_at "dmx"); (case r149 => walk_at "rot"); (case rr149 => walk_at "rot"); (case hd149 => walk_at "hdx"); (case hu149 => walk_at "hux"); intro S9 σ9 e9 dx9 t9 hs9 k9 v9 J9 hS9 hle9 hD9 hsm9 hK9 hv9 h9 tk9 F9 N9 D9; (try k_sweep); (try dsimp only))
    refine sym_inst hS ?_; intro _ _ _ _ _ _ _ _ _ _ _ _ _ hi1 hi2
    (revert X; k_fill; intro X; refine wpAny_call ?_; k_dflt ktr_enter; walk_at "loc"; refine genT ?_; intro tk9)
    walk_at "st9"
    all_goals first
      | (refine' hret _ _ _ _ ?F ?N ?D ?P; (case F => k_asm); (case N => k_asm); (case D => assumption); (case P => exact power_R_mk rfl _ _ rfl (by unfold powE; first | ((repeat first | refine (if_neg (by assumption)).trans ?_ | refine (if_neg (ne_true_of_eq_false (by assumption))).trans ?_); first | rfl | assumption | exact (if_pos (by assumption)).trans rfl | exact (if_pos (by assumption)).trans (by assumption) | exact congrArg Except.ok (if_neg (by assumption)) | exact (if_pos (by assumption)).trans (congrArg Except.ok (if_neg (by assumption))) | exact (if_pos (by assumption)).trans (congrArg Except.ok (if_pos (by assumption))); done) | (simp [*]; done))))
      | (refine' hthr _ _ _ _ _ _ ?F152 ?U152 ?R152 ?D152 ?P; (case U152 => assumption); (case F152 => assumption); (case R152 => assumption); (case D152 => assumption); (case P => exact ⟨_, by unfold powE; first | ((repeat first | refine (if_neg (by assumption)).trans ?_ | refine (if_neg (ne_true_of_eq_false (by assumption))).trans ?_); first | rfl | assumption | exact (if_pos (by assumption)).trans rfl | exact (if_pos (by assumption)).trans (by assumption) | exact congrArg Except.ok (if_neg (by assumption)) | exact (if_pos (by assumption)).trans (congrArg Except.ok (if_neg (by assumption))) | exact (if_pos (by assumption)).trans (congrArg Except.ok (if_pos (by assumption))); done) | (simp [*]; done), S9, σ9, _, _, _, _, hS9, hle9, hD9, hsm9, hK9, hv9, rfl⟩)))) only [↓hidL]
end Mine
namespace Mine
open PySem PySem.Calls PyProof.Rows PySem.Spec
theorem Rz.sub {base h : Heap} {l : List Env} {e dx : Addr} {led led' : Led} (R : Rz base l e dx led h) (s : ∀ q ∈ led', q ∈ led) : Rz base l e dx led' h := by
  obtain ⟨B, hB, hl, r⟩ := R
  exact ⟨B, hB, fun q hq => hl q (s q hq), r⟩
theorem ErrAt.drop {w : World} {sy : Addr} {σ : Sy} {n : Nat} {er : Er} {Rf R G : Led} {dx : Addr} {led' : Led} (h : ErrAt w sy σ n er Rf dx led') (r : Rot R Rf G) : ∃ led'', ErrAt w sy σ n er R dx led'' ∧ (∀ q ∈ led'', q ∈ led') ∧ (Dm led' → Dm led'') := by
  obtain ⟨S', σ', hs, k, v, J, h1, h2, h3, h4, h5, h6, rfl⟩ := h
  refine ⟨_, ⟨S', σ', hs, k, v, J, h1, h2, h3, h4, h5, h6, rfl⟩, ?_, ?_⟩
  · intro q hq
    rcases List.mem_append.mp hq with hq | hq
    · exact List.mem_append_left _ hq
    · refine List.mem_append_right _ ?_
      rcases List.mem_cons.mp hq with hq | hq
      · exact hq ▸ .head _
      · refine .tail _ ?_
        rcases List.mem_append.mp hq with hq | hq
        · exact List.mem_append_left _ hq
        · exact List.mem_append_right _ (r.perm.mem_iff.mpr (List.mem_append_left _ hq))
  · intro d
    have p : (S' ++ ((dx, ballD hs k v) :: (J ++ Rf))).Perm (S' ++ ((dx, ballD hs k v) :: (J ++ (R ++ G)))) := List.Perm.append_left _ (List.Perm.cons _ (List.Perm.append_left _ r.perm))
    refine Dm.sub (Dm.perm p d) ?_
    refine List.Sublist.append_left (List.Sublist.cons_cons _ (List.Sublist.append_left ?_ _)) _
    exact List.sublist_append_left _ _
/-- where a turn of a while ends -/
def TurnW (h₀ : Heap) (L : Addr) (s₁ : Shared) (J : Nat → (Str → Option Value) → Led → Prop) (Q : Flow → Shared → Prop) (n : Nat) (f : Flow) (s₂ : Shared) : Prop :=
  match f with
  | .ret v => Q (.ret v) s₂
  | .brk => Q .next s₂
  | _ => ∃ h' tk m' led' n', s₂ = { s₁ with heap := h', toks := tk } ∧ Fr h₀ L h' m' ∧ News h₀ L h' led' ∧ Dm led' ∧ n' < n ∧ J n' m' led'
theorem TurnW.rot {h₀ : Heap} {L : Addr} {s₁ : Shared} {J : Nat → (Str → Option Value) → Led → Prop} {Q : Flow → Shared → Prop} {h' : Heap} {tk n n' : Nat} {m' : Str → Option Value} {led' : Led}
    (F : Fr h₀ L h' m') (N : News h₀ L h' led') (d : Dm led') (hn : n' < n) (hj : J n' m' led') : TurnW h₀ L s₁ J Q n .next { s₁ with heap := h', toks := tk } := ⟨h', tk, m', led', n', rfl, F, N, d, hn, hj⟩
theorem TurnW.rotC {h₀ : Heap} {L : Addr} {s₁ : Shared} {J : Nat → (Str → Option Value) → Led → Prop} {Q : Flow → Shared → Prop} {h' : Heap} {tk n n' : Nat} {m' : Str → Option Value} {led' : Led}
    (F : Fr h₀ L h' m') (N : News h₀ L h' led') (d : Dm led') (hn : n' < n) (hj : J n' m' led') : TurnW h₀ L s₁ J Q n .cont { s₁ with heap := h', toks := tk } := ⟨h', tk, m', led', n', rfl, F, N, d, hn, hj⟩
theorem while_led {prog : Program} {w : World} {A : Around} {E : Value → Shared → Prop} {s : Shared} {env : Env} {h₀ : Heap} {Q : Flow → Shared → Prop} {test : Expr} {body : List Stmt} {pos : Pos} {m : Str → Option Value} {led : Led} (J : Nat → (Str → Option Value) → Led → Prop) {n₀ : Nat}
    (F : Fr h₀ env.locals s.heap m) (N : News h₀ env.locals s.heap led) (dm : Dm led) (hJ : J n₀ m led)
    (turn : ∀ n m₁ led₁ h tk, J n m₁ led₁ → Fr h₀ env.locals h m₁ → News h₀ env.locals h led₁ → Dm led₁ →
      wpAny (model prog w) A (isTrue test env (eval test env)) (fun b s₂ =>
        if b = true then wpAny (model prog w) A (execs body env) (TurnW h₀ env.locals { s with heap := h, toks := tk } J Q n) E s₂ else Q .next s₂) E { s with heap := h, toks := tk })
    (hE : PassesOwn (model prog w) A env E := by passes_own) :
    wpAny (model prog w) A (exec (.While test body [] pos) env) Q E s := by
  refine While_inv2 (fun n m led => J n m led ∧ Dm led) F N ⟨hJ, dm⟩ ?_ hE
  rintro n m₁ led₁ h tk F₁ N₁ ⟨hJ₁, D₁⟩
  refine wpAny_mono (turn n m₁ led₁ h tk hJ₁ F₁ N₁ D₁) (fun b s₂ p => ?_) fun _ _ x => x
  cases b with
  | false => simpa using p
  | true =>
    simp only [if_true] at p ⊢
    refine wpAny_mono p (fun f s₃ q => ?_) fun _ _ x => x
    cases f with
    | ret v => exact q
    | brk => exact q
    | next =>
      obtain ⟨h', tk', m', led', n', rfl, F', N', D', hn, hj⟩ := q
      exact ⟨h', tk', m', led', n', rfl, F', N', hn, hj, D'⟩
    | cont =>
      obtain ⟨h', tk', m', led', n', rfl, F', N', D', hn, hj⟩ := q
      exact ⟨h', tk', m', led', n', rfl, F', N', hn, hj, D'⟩
theorem nopy {y : Int} (h : Builtin.Int.intBits y ≤ 80) : y.natAbs.log2 < 9000 := by
  have h1 := intBits_le_iff.mp h
  by_cases h0 : y.natAbs = 0
  · rw [h0]; decide
  · exact (Nat.log2_lt h0).mpr (Nat.lt_of_lt_of_le h1 (Nat.pow_le_pow_right (by decide) (by decide)))
theorem fdiv_mine {prog : Program} {w : World} {A : Around} {E : Value → Shared → Prop} {s : Shared} {a b : Int} {t u : Tok} {Q : Value → Shared → Prop} (h0 : b ≠ 0) (hb : Builtin.Int.intBits b ≤ 80) (h : Q (.int (a.fdiv b) s.toks) { s with toks := s.toks + 1 }) :
    wpAny (model prog w) A (binaryOp .FloorDiv (.int a t) (.int b u)) Q E s := floordiv_int h0 h (.inl (PyProof.noPylong_of_log2 (nopy hb)))
theorem bits_mono {a : Int} {m n : Nat} (h : Builtin.Int.intBits a ≤ m) (hm : m ≤ n) : Builtin.Int.intBits a ≤ n := Nat.le_trans h hm
theorem bits_abs {x : Int} {m : Nat} (h : Builtin.Int.intBits x ≤ m) : Builtin.Int.intBits (if x < 0 then -x else x) ≤ m := intBits_le_of_natAbs (y := x) (by split <;> (first | with_reducible exact om175 | with_reducible exact om178 | omega)) h
theorem mod_mine {prog : Program} {w : World} {A : Around} {E : Value → Shared → Prop} {s : Shared} {a b : Int} {t u : Tok} {Q : Value → Shared → Prop} (h0 : b ≠ 0) (h : Q (.int (a.fmod b) s.toks) { s with toks := s.toks + 1 }) :
    wpAny (model prog w) A (binaryOp .Mod (.int a t) (.int b u)) Q E s := mod_int' h0 h
theorem shl_mine {prog : Program} {w : World} {A : Around} {E : Value → Shared → Prop} {s : Shared} {a n mx : Int} {t u : Tok} {Q : Value → Shared → Prop} (hn : ¬ n < 0) (h1 : ¬ mx < (Builtin.Int.intBits a : Int) + n) (h2 : mx < 100) (h : Q (.int (a * 2 ^ n.toNat) s.toks) { s with toks := s.toks + 1 }) :
    wpAny (model prog w) A (binaryOp .LShift (.int a t) (.int n u)) Q E s := lshift_int (by (first | with_reducible exact om176 h1 h2 | with_reducible exact om90 hn | omega)) (by (first | with_reducible exact om176 h1 h2 | with_reducible exact om90 hn | omega)) h
theorem shr_mine {prog : Program} {w : World} {A : Around} {E : Value → Shared → Prop} {s : Shared} {a n : Int} {t u : Tok} {Q : Value → Shared → Prop} (hn : ¬ n < 0) (h : Q (.int (a.fdiv (2 ^ n.toNat)) s.toks) { s with toks := s.toks + 1 }) :
    wpAny (model prog w) A (binaryOp .RShift (.int a t) (.int n u)) Q E s := rshift_int (by (first | with_reducible exact om90 hn | omega)) h
end Mine
theorem Mine.wd67 : True := by
  (k_with "W binaryOp FloorDiv int int" => (k_here; k_dflt (refine' Mine.fdiv_mine ?k0W67 ?kbW67 ?_; (case k0W67 => assumption); (case kbW67 => first | assumption | exact Mine.bits_mono (by assumption) (by decide)); k_whole)))
  (k_with "W binaryOp Mod int int" => (k_here; k_dflt (refine' Mine.mod_mine ?k0W68 ?_; (case k0W68 => assumption); k_whole)))
  (k_with "W binaryOp LShift int int" => (k_here; k_dflt (refine' Mine.shl_mine ?k0W69 ?k1W69 ?k2W69 ?_; (case k0W69 => assumption); (case k1W69 => assumption); (case k2W69 => assumption); k_whole)))
  (k_with "W binaryOp RShift int int" => (k_here; k_dflt (refine' Mine.shr_mine ?k0W70 ?_; (case k0W70 => assumption); k_whole)))
  (k_with "W eval Call Name" => (k_here; (with_reducible show wpAny _ _ (eval (Expr.Call (Expr.Name _ _) (_ :: _) [] _) _) _ _ _); refine Call_ ?_))
  (k_with "W leaving ref" => (k_here; k_dflt (refine' Mine.leave2 ?k1W72 ?k2W72 ?k3W72 ?k4W72 ?_; (case k3W72 => assumption); (case k1W72 => assumption); (case k2W72 => assumption); (case k4W72 => assumption); k_whole); intro hZ9 RZ9 UZ9; (try dsimp only at RZ9 UZ9 ⊢)))
  trivial
namespace Mine
open PySem PySem.Calls PyProof.Rows PySem.Spec
noncomputable def divT (x y : Int) : Int := if (x < 0) = (y < 0) then (if x < 0 then -x else x).fdiv (if y < 0 then -y else y) else -((if x < 0 then -x else x).fdiv (if y < 0 then -y else y))
theorem divT_at {x y : Int} {b : Bool} (h : (decide (x < 0) != decide (y < 0)) = b) : (if b = true then -((if x < 0 then -x else x).fdiv (if y < 0 then -y else y)) else (if x < 0 then -x else x).fdiv (if y < 0 then -y else y)) = divT x y := by
  subst h
  unfold divT
  by_cases hx : x < 0 <;> by_cases hy : y < 0 <;> simp [hx, hy]
def divT_R_T (R : Led) (x y : Int) (K7 : Value → Led → Prop) : Prop := ∀ u, K7 (.int (divT x y) u) (R)
def divT_R (R : Led) (x y : Int) (r : Value) (led' : Led) : Prop := ∀ K7 : Value → Led → Prop, divT_R_T R x y K7 → K7 r led'
theorem divT_R_mk {R : Led} {x y : Int} {r : Value} {led' : Led} : led' = R → ∀ u, r = .int (divT x y) u → divT_R R x y r led' := by
  intro a0 _ a1
  subst a0
  subst a1
  exact fun K7 k7 => k7 _
theorem divT_R_pt {R : Led} {x y : Int} (K7 : Value → Led → Prop) (k7 : divT_R_T R x y K7) (r : Value) (led' : Led) (h7 : divT_R R x y r led') : K7 r led' := h7 K7 k7
theorem divT_tells {w : World} {R : Led} {x y : Int} {t t' : Tok} (hy : y ≠ 0) (hy70 : Builtin.Int.intBits y ≤ 70) : Tells w 462 [.int x t, .int y t'] 1 R (divT_R R x y) NoErr := by
  refine hidE ?_; simp (disch := k_dflt (
    refine hidW ?_
    intro dp un gd cn cs L a ccd cl outer A₀ base h₀ p loose mean mg mb m s Q E B F X N T hk dm hd hu hret hthr
    have hy0 : (if y < 0 then -y else y) ≠ 0 := by split <;> walk_at "ar"
    have hy8 := bits_abs hy70
    rename Option (List Code) => gd19Z; (k_with "ar2" => guard_hyp gd19Z; first | with_reducible exact op46 (by assumption))
    (revert X; k_fill; intro X; refine wpAny_call ?_; k_dflt ktr_enter; walk_at "loc"; refine genT ?_; intro tk9)
    walk_at "st9"
    all_goals first | (refine' hret _ _ _ _ ?F ?N ?D ?P; (case F => k_asm); (case N => k_asm); (case D => assumption); (case P => exact divT_R_mk rfl _ (congrArg (fun z => Value.int z _) (divT_at (b := true) (by assumption))))) | (refine' hret _ _ _ _ ?F ?N ?D ?P; (case F => k_asm); (case N => k_asm); (case D => assumption); (case P => exact divT_R_mk rfl _ (congrArg (fun z => Value.int z _) (divT_at (b := false) (by assumption))))))) only [↓hidL]
noncomputable def signV (x : Int) : Int := if x < 0 then -1 else if 0 < x then 1 else 0
def sign_R_T (R : Led) (x : Int) (K7 : Value → Led → Prop) : Prop := ∀ u, K7 (.int (signV x) u) (R)
def sign_R (R : Led) (x : Int) (r : Value) (led' : Led) : Prop := ∀ K7 : Value → Led → Prop, sign_R_T R x K7 → K7 r led'
theorem sign_R_mk {R : Led} {x : Int} {r : Value} {led' : Led} : led' = R → ∀ u, r = .int (signV x) u → sign_R R x r led' := by
  intro a0 _ a1
  subst a0
  subst a1
  exact fun K7 k7 => k7 _
theorem sign_R_pt {R : Led} {x : Int} (K7 : Value → Led → Prop) (k7 : sign_R_T R x K7) (r : Value) (led' : Led) (h7 : sign_R R x r led') : K7 r led' := h7 K7 k7
theorem sign_tells {w : World} {R : Led} {x : Int} {t : Tok} : Tells w 504 [.int x t] 1 R (sign_R R x) NoErr := by
  refine hidE ?_; simp (disch := k_dflt (
    refine hidW ?_
    intro dp un gd cn cs L a ccd cl outer A₀ base h₀ p loose mean mg mb m s Q E B F X N T hk dm hd hu hret hthr
    rename Option (List Code) => gd20Z
    (revert X; k_fill; intro X; refine wpAny_call ?_; k_dflt ktr_enter; walk_at "loc"; refine genT ?_; intro tk9)
    walk_at "st9"
    all_goals (refine' hret _ _ _ _ ?F ?N ?D ?P; (case F => k_asm); (case N => k_asm); (case D => assumption); (case P => exact sign_R_mk rfl _ (by unfold signV; first | ((repeat first | refine (if_neg (by assumption)).trans ?_ | refine (if_neg (ne_true_of_eq_false (by assumption))).trans ?_); first | rfl | assumption | exact (if_pos (by assumption)).trans rfl | exact (if_pos (by assumption)).trans (by assumption) | exact congrArg Except.ok (if_neg (by assumption)) | exact (if_pos (by assumption)).trans (congrArg Except.ok (if_neg (by assumption))) | exact (if_pos (by assumption)).trans (congrArg Except.ok (if_pos (by assumption))); done) | (simp [*]; rfl)))))) only [↓hidL]
noncomputable def remV (x y : Int) : Int := x - y * divT x y
theorem bits_divT {x y : Int} {m : Nat} (h : Builtin.Int.intBits x ≤ m) : Builtin.Int.intBits (divT x y) ≤ m := by
  unfold divT
  split
  · exact intBits_fdiv_le (bits_abs h)
  · exact intBits_neg_le (intBits_fdiv_le (bits_abs h))
def rem_R_T (R : Led) (x y : Int) (K7 : Value → Led → Prop) : Prop := ∀ u, K7 (.int (remV x y) u) (R)
def rem_R (R : Led) (x y : Int) (r : Value) (led' : Led) : Prop := ∀ K7 : Value → Led → Prop, rem_R_T R x y K7 → K7 r led'
theorem rem_R_mk {R : Led} {x y : Int} {r : Value} {led' : Led} : led' = R → ∀ u, r = .int (remV x y) u → rem_R R x y r led' := by
  intro a0 _ a1
  subst a0
  subst a1
  exact fun K7 k7 => k7 _
theorem rem_R_pt {R : Led} {x y : Int} (K7 : Value → Led → Prop) (k7 : rem_R_T R x y K7) (r : Value) (led' : Led) (h7 : rem_R R x y r led') : K7 r led' := h7 K7 k7
theorem rem_tells {w : World} {R : Led} {x y : Int} {t t' : Tok} (hy : y ≠ 0) (hx70 : Builtin.Int.intBits x ≤ 70) (hy70 : Builtin.Int.intBits y ≤ 70) : Tells w 469 [.int x t, .int y t'] 2 R (rem_R R x y) NoErr := by
  refine hidE ?_; simp (disch := k_dflt (
    refine hidW ?_
    intro dp un gd cn cs L a ccd cl outer A₀ base h₀ p loose mean mg mb m s Q E B F X N T hk dm hd hu hret hthr
    have hq := bits_divT (y := y) hx70
    rename Option (List Code) => gd21Z
    k_with "mine call" => guard_hyp gd21Z; first | (k_dflt (refine' go0n (e := divT_R_pt) (divT_tells (by assumption) (by assumption)) ?B160 ?F160 ?X160 ?N160 ?T160 ?hk160 ?d160 ?hd160 ?hu160 ?_; (case B160 => k_asm); (case F160 => k_asm); (case X160 => k_asm); (case N160 => k_asm); (case T160 => k_asm); (case hk160 => first | exact rfl | assumption); (case d160 => walk_at "dmx"); (case hd160 => walk_at "hdx"); (case hu160 => walk_at "hux"); intro u9 h9 tk9 F9 N9 D9; (try k_sweep); (try dsimp only)))
    (revert X; k_fill; intro X; refine wpAny_call ?_; k_dflt ktr_enter; walk_at "loc"; refine genT ?_; intro tk9)
    walk_at "st9"
    all_goals (refine' hret _ _ _ _ ?F ?N ?D ?P; (case F => k_asm); (case N => k_asm); (case D => assumption); (case P => exact rem_R_mk rfl _ rfl)))) only [↓hidL]
noncomputable def shrV (x c : Int) : Int := if (Builtin.Int.intBits x : Int) ≤ c then (if x < 0 then -1 else 0) else x.fdiv (2 ^ c.toNat)
def shrp_R_T (R : Led) (x c : Int) (K7 : Value → Led → Prop) : Prop := ∀ u, K7 (.int (shrV x c) u) (R)
def shrp_R (R : Led) (x c : Int) (r : Value) (led' : Led) : Prop := ∀ K7 : Value → Led → Prop, shrp_R_T R x c K7 → K7 r led'
theorem shrp_R_mk {R : Led} {x c : Int} {r : Value} {led' : Led} : led' = R → ∀ u, r = .int (shrV x c) u → shrp_R R x c r led' := by
  intro a0 _ a1
  subst a0
  subst a1
  exact fun K7 k7 => k7 _
theorem shrp_R_pt {R : Led} {x c : Int} (K7 : Value → Led → Prop) (k7 : shrp_R_T R x c K7) (r : Value) (led' : Led) (h7 : shrp_R R x c r led') : K7 r led' := h7 K7 k7
theorem shrp_tells {w : World} {sy : Addr} {R : Led} {x c mx : Int} {t t' t2 : Tok} (hc : ¬ c < 0) : Tells w 497 [.ref sy, .int x t, .int c t', .int mx t2] 1 R (shrp_R R x c) NoErr := by
  refine hidE ?_; simp (disch := k_dflt (
    refine hidW ?_
    intro dp un gd cn cs L a ccd cl outer A₀ base h₀ p loose mean mg mb m s Q E B F X N T hk dm hd hu hret hthr
    rename Option (List Code) => gd22Z
    (revert X; k_fill; intro X; refine wpAny_call ?_; k_dflt ktr_enter; walk_at "loc"; refine genT ?_; intro tk9)
    walk_at "st9"
    all_goals (refine' hret _ _ _ _ ?F ?N ?D ?P; (case F => k_asm); (case N => k_asm); (case D => assumption); (case P => exact shrp_R_mk rfl _ (by unfold shrV; first | ((repeat first | refine (if_neg (by assumption)).trans ?_ | refine (if_neg (ne_true_of_eq_false (by assumption))).trans ?_); first | rfl | assumption | exact (if_pos (by assumption)).trans rfl | exact (if_pos (by assumption)).trans (by assumption) | exact congrArg Except.ok (if_neg (by assumption)) | exact (if_pos (by assumption)).trans (congrArg Except.ok (if_neg (by assumption))) | exact (if_pos (by assumption)).trans (congrArg Except.ok (if_pos (by assumption))); done) | (simp [*]; try rfl)))))) only [↓hidL]
noncomputable def shlE (x c mx : Int) : Except Er Int := if c < 0 then .ok (shrV x (-c)) else if x = 0 then .ok 0 else if mx < (Builtin.Int.intBits x : Int) + c then .error .mem else .ok (x * 2 ^ c.toNat)
def shl_R_T (S R : Led) (x c mx : Int) (K7 : Value → Led → Prop) : Prop := ∀ v, ∀ u, shlE x c mx = .ok v → K7 (.int v u) (S ++ R)
def shl_R (S R : Led) (x c mx : Int) (r : Value) (led' : Led) : Prop := ∀ K7 : Value → Led → Prop, shl_R_T S R x c mx K7 → K7 r led'
theorem shl_R_mk {S R : Led} {x c mx : Int} {r : Value} {led' : Led} : led' = S ++ R → ∀ v, ∀ u, r = .int v u → shlE x c mx = .ok v → shl_R S R x c mx r led' := by
  intro a0 _ _ a1 a2
  subst a0
  subst a1
  exact fun K7 k7 => k7 _ _ a2
theorem shl_R_pt {S R : Led} {x c mx : Int} (K7 : Value → Led → Prop) (k7 : shl_R_T S R x c mx K7) (r : Value) (led' : Led) (h7 : shl_R S R x c mx r led') : K7 r led' := h7 K7 k7
theorem shl_tells {w : World} {sy : Addr} {σ : Sy} {S R : Led} {n : Nat} {x c mx : Int} {t t' t2 : Tok} (hS : SymAt w sy σ S) (hd0 : σ.Dot) (hz : σ.Small n) (hn : n < 50000) (hmx : mx < 100) :
    Tells w 490 [.ref sy, .int x t, .int c t', .int mx t2] 8 (S ++ R) (shl_R S R x c mx) (fun dx led' => ∃ er, shlE x c mx = .error er ∧ ErrAt w sy σ n er R dx led') := by
  refine hidE ?_; simp (disch := k_dflt (
    refine hidW ?_
    intro dp un gd cn cs L a ccd cl outer A₀ base h₀ p loose mean mg mb m s Q E B F X N T hk dm hd hu hret hthr
    rename Option (List Code) => gd23Z; (k_with "ar2" => guard_hyp gd23Z; first | with_reducible exact om177 (by assumption))
    k_with "mine call" => guard_hyp gd23Z; first
      | k_dflt (refine' go0n (e := shrp_R_pt) (shrp_tells (by walk_at "ar")) ?B166 ?F166 ?X166 ?N166 ?T166 ?hk166 ?d166 ?hd166 ?hu166 ?_; (case B166 => k_asm); (case F166 => k_asm); (case X166 => k_asm); (case N166 => k_asm); (case T166 => k_asm); (case hk166 => first | exact rfl | assumption); (case d166 => walk_at "dmx"); (case hd166 => walk_at "hdx"); (case hu166 => walk_at "hux"); intro u9 h9 tk9 F9 N9 D9; (try k_sweep); (try dsimp only))
      | k_dflt (refine' go1n (e := ErrRet_pt) (mem_tells (by assumption) (by assumption) (by assumption) (by assumption)) ?B167 ?F167 ?X167 ?N167 ?T167 ?hk167 ?d167 ?r167 ?hd167 ?hu167 ?_; (case B167 => k_asm); (case F167 => k_asm); (case X167 => k_asm); (case N167 => k_asm); (case T167 => k_asm); (case hk167 => first | exact rfl | assumption); (case d167 => walk_at "dmx"); (case r167 => walk_at "rot"); (case hd167 => walk_at "hdx"); (case hu167 => walk_at "hux"); intro S9 σ9 e9 dx9 t9 hs9 k9 v9 J9 hS9 hle9 hD9 hsm9 hK9 hv9 h9 tk9 F9 N9 D9; (try k_sweep); (try dsimp only))
    refine sym_inst hS ?_; intro _ _ _ _ _ _ _ _ _ _ _ _ _ hi1 hi2
    (revert X; k_fill; intro X; refine wpAny_call ?_; k_dflt ktr_enter; walk_at "loc"; refine genT ?_; intro tk9)
    walk_at "st9"
    all_goals first
      | (refine' hret _ _ _ _ ?F ?N ?D ?P; (case F => k_asm); (case N => k_asm); (case D => assumption); (case P => exact shl_R_mk rfl _ _ rfl (by unfold shlE; first | ((repeat first | refine (if_neg (by assumption)).trans ?_ | refine (if_neg (ne_true_of_eq_false (by assumption))).trans ?_); first | rfl | assumption | exact (if_pos (by assumption)).trans rfl | exact (if_pos (by assumption)).trans (by assumption) | exact congrArg Except.ok (if_neg (by assumption)) | exact (if_pos (by assumption)).trans (congrArg Except.ok (if_neg (by assumption))) | exact (if_pos (by assumption)).trans (congrArg Except.ok (if_pos (by assumption))); done) | (simp [*]; done))))
      | (refine' hthr _ _ _ _ _ _ ?F170 ?U170 ?R170 ?D170 ?P; (case U170 => assumption); (case F170 => assumption); (case R170 => assumption); (case D170 => assumption); (case P => exact ⟨_, by unfold shlE; first | ((repeat first | refine (if_neg (by assumption)).trans ?_ | refine (if_neg (ne_true_of_eq_false (by assumption))).trans ?_); first | rfl | assumption | exact (if_pos (by assumption)).trans rfl | exact (if_pos (by assumption)).trans (by assumption) | exact congrArg Except.ok (if_neg (by assumption)) | exact (if_pos (by assumption)).trans (congrArg Except.ok (if_neg (by assumption))) | exact (if_pos (by assumption)).trans (congrArg Except.ok (if_pos (by assumption))); done) | (simp [*]; done), S9, σ9, _, _, _, _, hS9, hle9, hD9, hsm9, hK9, hv9, rfl⟩)))) only [↓hidL]
noncomputable def shrE (x c mx : Int) : Except Er Int := if c < 0 then shlE x (-c) mx else .ok (shrV x c)
def shr_R_T (S R : Led) (x c mx : Int) (K7 : Value → Led → Prop) : Prop := ∀ v, ∀ u, shrE x c mx = .ok v → K7 (.int v u) (S ++ R)
def shr_R (S R : Led) (x c mx : Int) (r : Value) (led' : Led) : Prop := ∀ K7 : Value → Led → Prop, shr_R_T S R x c mx K7 → K7 r led'
theorem shr_R_mk {S R : Led} {x c mx : Int} {r : Value} {led' : Led} : led' = S ++ R → ∀ v, ∀ u, r = .int v u → shrE x c mx = .ok v → shr_R S R x c mx r led' := by
  intro a0 _ _ a1 a2
  subst a0
  subst a1
  exact fun K7 k7 => k7 _ _ a2
theorem shr_R_pt {S R : Led} {x c mx : Int} (K7 : Value → Led → Prop) (k7 : shr_R_T S R x c mx K7) (r : Value) (led' : Led) (h7 : shr_R S R x c mx r led') : K7 r led' := h7 K7 k7
theorem shr_tells {w : World} {sy : Addr} {σ : Sy} {S R : Led} {n : Nat} {x c mx : Int} {t t' t2 : Tok} (hS : SymAt w sy σ S) (hd0 : σ.Dot) (hz : σ.Small n) (hn : n < 50000) (hmx : mx < 100) :
    Tells w 497 [.ref sy, .int x t, .int c t', .int mx t2] 9 (S ++ R) (shr_R S R x c mx) (fun dx led' => ∃ er, shrE x c mx = .error er ∧ ErrAt w sy σ n er R dx led') := by
  refine hidE ?_; simp (disch := k_dflt (
    refine hidW ?_
    intro dp un gd cn cs L a ccd cl outer A₀ base h₀ p loose mean mg mb m s Q E B F X N T hk dm hd hu hret hthr
    rename Option (List Code) => gd24Z
    k_with "mine call" => guard_hyp gd24Z; first
      | k_dflt (refine' go1 (e := shl_R_pt) (shl_tells (by assumption) (by assumption) (by assumption) (by assumption) (by assumption)) ?B173 ?F173 ?X173 ?N173 ?T173 ?hk173 ?d173 ?r173 ?hd173 ?hu173 ?_ ?_; (case B173 => k_asm); (case F173 => k_asm); (case X173 => k_asm); (case N173 => k_asm); (case T173 => k_asm); (case hk173 => first | exact rfl | assumption); (case d173 => walk_at "dmx"); (case r173 => walk_at "rot"); (case hd173 => walk_at "hdx"); (case hu173 => walk_at "hux"); rotate_left; intro e9 dx9 led9 h9 tk9 g9 F9 U9 R9 D9 hE9; (try dsimp only); rotate_left; intro v9 u9 q9 h9 tk9 F9 N9 D9; (try k_sweep); (try dsimp only))
    refine sym_inst hS ?_; intro _ _ _ _ _ _ _ _ _ _ _ _ _ hi1 hi2
    (revert X; k_fill; intro X; refine wpAny_call ?_; k_dflt ktr_enter; walk_at "loc"; refine genT ?_; intro tk9)
    walk_at "st9"
    all_goals first
      | (refine' hret _ _ _ _ ?F ?N ?D ?P; (case F => k_asm); (case N => k_asm); (case D => assumption); (case P => exact shr_R_mk rfl _ _ rfl (by first | (unfold shrE; ((repeat first | refine (if_neg (by assumption)).trans ?_ | refine (if_neg (ne_true_of_eq_false (by assumption))).trans ?_); first | rfl | assumption | exact (if_pos (by assumption)).trans rfl | exact (if_pos (by assumption)).trans (by assumption) | exact congrArg Except.ok (if_neg (by assumption)) | exact (if_pos (by assumption)).trans (congrArg Except.ok (if_neg (by assumption))) | exact (if_pos (by assumption)).trans (congrArg Except.ok (if_pos (by assumption))); done)) | (unfold shrE; simp [*]; done) | (unfold shrE shrV; simp [*]; done))))
      | (refine' hthr _ _ _ _ _ _ ?F176 ?U176 ?R176 ?D176 ?P; (case U176 => assumption); (case F176 => assumption); (case R176 => assumption); (case D176 => assumption); (case P => (refine Gen fun gG9 gK9 => ?_; obtain ⟨er9, q9, hA9⟩ := hE9; refine gK9 ?_; clear gK9 gG9); exact ⟨er9, by unfold shrE; first | ((repeat first | refine (if_neg (by assumption)).trans ?_ | refine (if_neg (ne_true_of_eq_false (by assumption))).trans ?_); first | rfl | assumption | exact (if_pos (by assumption)).trans rfl | exact (if_pos (by assumption)).trans (by assumption) | exact congrArg Except.ok (if_neg (by assumption)) | exact (if_pos (by assumption)).trans (congrArg Except.ok (if_neg (by assumption))) | exact (if_pos (by assumption)).trans (congrArg Except.ok (if_pos (by assumption))); done) | (simp [*]; done), hA9⟩)))) only [↓hidL]
end Mine
namespace Mine
open PySem PySem.Calls PyProof.Rows PySem.Spec
/-- check_size: the value, or the error -/
noncomputable def sizeE (v b : Int) : Except Er Int := if b < (Builtin.Int.intBits v : Int) then .error .mem else .ok v
def size2_R_T (S R : Led) (v b : Int) (K7 : Value → Led → Prop) : Prop := ∀ v', ∀ u, sizeE v b = .ok v' → K7 (.int v' u) (S ++ R)
def size2_R (S R : Led) (v b : Int) (r : Value) (led' : Led) : Prop := ∀ K7 : Value → Led → Prop, size2_R_T S R v b K7 → K7 r led'
theorem size2_R_mk {S R : Led} {v b : Int} {r : Value} {led' : Led} : led' = S ++ R → ∀ v', ∀ u, r = .int v' u → sizeE v b = .ok v' → size2_R S R v b r led' := by
  intro a0 _ _ a1 a2
  subst a0
  subst a1
  exact fun K7 k7 => k7 _ _ a2
theorem size2_R_pt {S R : Led} {v b : Int} (K7 : Value → Led → Prop) (k7 : size2_R_T S R v b K7) (r : Value) (led' : Led) (h7 : size2_R S R v b r led') : K7 r led' := h7 K7 k7
theorem size2_tells {w : World} {sy : Addr} {σ : Sy} {S R : Led} {n : Nat} {v b : Int} {t t' : Tok} (hS : SymAt w sy σ S) (hd0 : σ.Dot) (hz : σ.Small n) (hn : n < 50000) (hv : Builtin.Int.intBits v ≤ 200) (hb : b < 100) :
    Tells w 455 [.ref sy, .int v t, .int b t'] 8 (S ++ R) (size2_R S R v b) (fun dx led' => ∃ er, sizeE v b = .error er ∧ ErrAt w sy σ n er R dx led') := by
  refine hidE ?_; simp (disch := k_dflt (
    refine hidW ?_
    intro dp un gd cn cs L a ccd cl outer A₀ base h₀ p loose mean mg mb m s Q E B F X N T hk dm hd hu hret hthr
    have hv9 := intBits_le_iff.mp hv
    rename Option (List Code) => gd25Z
    k_with "mine call" => guard_hyp gd25Z; first
      | k_dflt (refine' go1n (e := ErrRet_pt) (mem_tells (by assumption) (by assumption) (by assumption) (by assumption)) ?B179 ?F179 ?X179 ?N179 ?T179 ?hk179 ?d179 ?r179 ?hd179 ?hu179 ?_; (case B179 => k_asm); (case F179 => k_asm); (case X179 => k_asm); (case N179 => k_asm); (case T179 => k_asm); (case hk179 => first | exact rfl | assumption); (case d179 => walk_at "dmx"); (case r179 => walk_at "rot"); (case hd179 => walk_at "hdx"); (case hu179 => walk_at "hux"); intro S9 σ9 e9 dx9 t9 hs9 k9 v9 J9 hS9 hle9 hD9 hsm9 hK9 hv9 h9 tk9 F9 N9 D9; (try k_sweep); (try dsimp only))
    refine sym_inst hS ?_; intro _ _ _ _ _ _ _ _ _ _ _ _ _ hi1 hi2
    (revert X; k_fill; intro X; refine wpAny_call ?_; k_dflt ktr_enter; walk_at "loc"; refine genT ?_; intro tk9)
    walk_at "st9"
    all_goals first
      | (refine' hret _ _ _ _ ?F ?N ?D ?P; (case F => k_asm); (case N => k_asm); (case D => assumption); (case P => exact size2_R_mk rfl _ _ rfl (by unfold sizeE; first | ((repeat first | refine (if_neg (by assumption)).trans ?_ | refine (if_neg (ne_true_of_eq_false (by assumption))).trans ?_); first | rfl | assumption | exact (if_pos (by assumption)).trans rfl | exact (if_pos (by assumption)).trans (by assumption) | exact congrArg Except.ok (if_neg (by assumption)) | exact (if_pos (by assumption)).trans (congrArg Except.ok (if_neg (by assumption))) | exact (if_pos (by assumption)).trans (congrArg Except.ok (if_pos (by assumption))); done) | (simp [*]; done))))
      | (refine' hthr _ _ _ _ _ _ ?F182 ?U182 ?R182 ?D182 ?P; (case U182 => assumption); (case F182 => assumption); (case R182 => assumption); (case D182 => assumption); (case P => exact ⟨_, by unfold sizeE; first | ((repeat first | refine (if_neg (by assumption)).trans ?_ | refine (if_neg (ne_true_of_eq_false (by assumption))).trans ?_); first | rfl | assumption | exact (if_pos (by assumption)).trans rfl | exact (if_pos (by assumption)).trans (by assumption) | exact congrArg Except.ok (if_neg (by assumption)) | exact (if_pos (by assumption)).trans (congrArg Except.ok (if_neg (by assumption))) | exact (if_pos (by assumption)).trans (congrArg Except.ok (if_pos (by assumption))); done) | (simp [*]; done), S9, σ9, _, _, _, _, hS9, hle9, hD9, hsm9, hK9, by assumption, rfl⟩)))) only [↓hidL]
def struct_R_T (x y p : Addr) (f : Int) (t : Tok) (k : Nat) (R : Led) (K7 : Value → Led → Prop) : Prop := ∀ a, ∀ t1, ∀ k1, K7 (.ref a) ([(a, tupO [.str (Str.ofString "s") t1, .int f t, .ref p] k1), (p, tupO [.ref x, .ref y] k)] ++ R)
def struct_R (x y p : Addr) (f : Int) (t : Tok) (k : Nat) (R : Led) (r : Value) (led' : Led) : Prop := ∀ K7 : Value → Led → Prop, struct_R_T x y p f t k R K7 → K7 r led'
theorem struct_R_mk {x y p : Addr} {f : Int} {t : Tok} {k : Nat} {R : Led} {r : Value} {led' : Led} : ∀ a, ∀ t1, ∀ k1, r = .ref a → led' = [(a, tupO [.str (Str.ofString "s") t1, .int f t, .ref p] k1), (p, tupO [.ref x, .ref y] k)] ++ R → struct_R x y p f t k R r led' := by
  intro _ _ _ a0 a1
  subst a0
  subst a1
  exact fun K7 k7 => k7 _ _ _
theorem struct_R_pt {x y p : Addr} {f : Int} {t : Tok} {k : Nat} {R : Led} (K7 : Value → Led → Prop) (k7 : struct_R_T x y p f t k R K7) (r : Value) (led' : Led) (h7 : struct_R x y p f t k R r led') : K7 r led' := h7 K7 k7
theorem struct_tells {w : World} {x y p : Addr} {f : Int} {t : Tok} {k : Nat} {R : Led} : Tells w 179 [.int f t, .ref p] 2 ([(p, tupO [.ref x, .ref y] k)] ++ R) (struct_R x y p f t k R) NoErr := by
  refine hidE ?_; simp (disch := k_dflt (
    refine hidW ?_
    intro dp un gd cn cs L a ccd cl outer A₀ base h₀ p loose mean mg mb m s Q E B F X N T hk dm hd hu hret hthr
    dsimp only [List.cons_append, List.nil_append] at N dm
    rename Option (List Code) => gd26Z
    (revert X; k_fill; intro X; refine wpAny_call ?_; k_dflt ktr_enter; walk_at "loc"; refine genT ?_; intro tk9)
    walk_at "st9"
    refine' hret _ _ _ _ ?F ?N ?D ?P
    (case F => k_asm)
    (case N => k_asm)
    (case D => walk_at "dm")
    (case P => exact struct_R_mk _ _ _ rfl rfl))) only [↓hidL]
noncomputable def unW : List Str := (["-", "+", "abs", "sign", "\\", "msb", "succ", "truncate", "round", "ceiling", "floor"] : List String).map Str.ofString
noncomputable def binW : List Str := (["+", "-", "*", "//", "rem", "mod", "div", "min", "max", "gcd", ">>", "<<", "/\\", "\\/", "xor", "^", "**", "plus"] : List String).map Str.ofString
theorem strs_zip : ∀ (ys : List Str) (t : Nat), StrsAre (List.zipWith Value.str ys (List.range' t ys.length)) ys
  | [], _ => .nil
  | _ :: ys, t => .cons _ _ (strs_zip ys (t + 1))
noncomputable abbrev strTup (ys : List Str) (t : Nat) : Obj := { cls := .type "tuple", data := .seq (List.zipWith Value.str ys (List.range' t ys.length)).toArray }
theorem un_tup (w : World) : (mk.heap_1 w.params).lookup 426 = some (strTup unW 754) := by kernel_rfl
theorem bin_tup (w : World) : (mk.heap_1 w.params).lookup 427 = some (strTup binW 766) := by kernel_rfl
theorem tup_of {K : Frag} {h : Heap} {a : Addr} {ys : List Str} {t : Nat} (X : K.In h) (q : K.lookup a = some (strTup ys t)) : PyProof.Rows.IsTup h a (List.zipWith Value.str ys (List.range' t ys.length)).toArray := ⟨_, X _ _ q, rfl, _, rfl⟩
theorem in_un {w : World} {prog : Program} {A : Around} {E : Value → Shared → Prop} {s : Shared} {x : Str} {t : Tok} {Q : Value → Shared → Prop} (X : (mk.heap_1 w.params).In s.heap) (h : Q (.bool (unW.any (· == x))) s) : wpAny (model prog w) A (compareOp .In (.str x t) (.ref 426)) Q E s := by
  exact in_tuple_strs (tup_of X (un_tup w)) (strs_zip _ _) h
theorem in_bin {w : World} {prog : Program} {A : Around} {E : Value → Shared → Prop} {s : Shared} {x : Str} {t : Tok} {Q : Value → Shared → Prop} (X : (mk.heap_1 w.params).In s.heap) (h : Q (.bool (binW.any (· == x))) s) : wpAny (model prog w) A (compareOp .In (.str x t) (.ref 427)) Q E s := by
  exact in_tuple_strs (tup_of X (bin_tup w)) (strs_zip _ _) h
end Mine
theorem Mine.wd73 : True := by
  (k_with "W compareOp In str ref" => (k_here; k_dflt (first | (refine' Mine.in_un ?kXW73 ?_; (case kXW73 => exact Mine.keeps_in (by k_asm) (by k_asm)); k_whole) | (refine' Mine.in_bin ?kXW73 ?_; (case kXW73 => exact Mine.keeps_in (by k_asm) (by k_asm)); k_whole))))
  trivial
namespace Mine
noncomputable def isEv (x : Str) (i : Int) : Bool := if i = 1 then unW.any (· == x) else if i = 2 then binW.any (· == x) else false
def isev_R_T (R : Led) (x : Str) (i : Int) (K7 : Value → Led → Prop) : Prop := K7 (.bool (isEv x i)) (R)
def isev_R (R : Led) (x : Str) (i : Int) (r : Value) (led' : Led) : Prop := ∀ K7 : Value → Led → Prop, isev_R_T R x i K7 → K7 r led'
theorem isev_R_mk {R : Led} {x : Str} {i : Int} {r : Value} {led' : Led} : led' = R → r = .bool (isEv x i) → isev_R R x i r led' := by
  intro a0 a1
  subst a0
  subst a1
  exact fun K7 k7 => k7
theorem isev_R_pt {R : Led} {x : Str} {i : Int} (K7 : Value → Led → Prop) (k7 : isev_R_T R x i K7) (r : Value) (led' : Led) (h7 : isev_R R x i r led') : K7 r led' := h7 K7 k7
theorem isev_tells {w : World} {R : Led} {x : Str} {i : Int} {t t' : Tok} : Tells w 441 [.str x t, .int i t'] 1 R (isev_R R x i) NoErr := by
  refine hidE ?_; simp (disch := k_dflt (
    refine hidW ?_
    intro dp un gd cn cs L a ccd cl outer A₀ base h₀ p loose mean mg mb m s Q E B F X N T hk dm hd hu hret hthr
    rename Option (List Code) => gd27Z
    (revert X; k_fill; intro X; refine wpAny_call ?_; k_dflt ktr_enter; walk_at "loc"; refine genT ?_; intro tk9)
    walk_at "st9"
    all_goals (refine' hret _ _ _ _ ?F ?N ?D ?P; (case F => k_asm); (case N => k_asm); (case D => assumption); (case P => exact isev_R_mk rfl (by unfold isEv; first | ((repeat first | refine (if_neg (by assumption)).trans ?_ | refine (if_neg (ne_true_of_eq_false (by assumption))).trans ?_); first | rfl | assumption | exact (if_pos (by assumption)).trans rfl | exact (if_pos (by assumption)).trans (by assumption) | exact congrArg Except.ok (if_neg (by assumption)) | exact (if_pos (by assumption)).trans (congrArg Except.ok (if_neg (by assumption))) | exact (if_pos (by assumption)).trans (congrArg Except.ok (if_pos (by assumption))); done) | (simp [*]; done)))))) only [↓hidL]
theorem gcd_abs {x y : Int} : (Int.gcd (if x < 0 then -x else x) (if y < 0 then -y else y) : Int) = Int.gcd x y := by
  unfold Int.gcd
  rw [show (if x < 0 then -x else x).natAbs = x.natAbs by split <;> (first | with_reducible exact om87 (by assumption) | with_reducible exact om88 | omega), show (if y < 0 then -y else y).natAbs = y.natAbs by split <;> (first | with_reducible exact om87 (by assumption) | with_reducible exact om88 | omega)]
theorem gcd_turn {a b : Int} (ha : 0 ≤ a) (hb : 0 ≤ b) (h0 : b ≠ 0) : Int.gcd b (a.fmod b) = Int.gcd a b ∧ (a.fmod b).natAbs < b.natAbs ∧ 0 ≤ a.fmod b := by
  rw [Int.fmod_eq_emod_of_nonneg a hb]
  have h1 : (a % b).natAbs = a.natAbs % b.natAbs := Int.natAbs_emod_of_nonneg ha b
  refine ⟨?_, ?_, Int.emod_nonneg _ h0⟩
  · unfold Int.gcd
    rw [h1, Nat.gcd_comm, ← Nat.gcd_rec, Nat.gcd_comm]
  · rw [h1]; exact Nat.mod_lt _ (by (first | with_reducible exact om89 hb h0 | omega))
inductive GcdJ (g : Int) (n : Nat) (m : Str → Option Value) : Prop
  | mk : ∀ a, ∀ b, ∀ u, ∀ t, m (Str.ofString "first") = some (.int a u) → m (Str.ofString "second") = some (.int b t) → n = b.natAbs → 0 ≤ a → 0 ≤ b → (Int.gcd a b : Int) = g → GcdJ g n m
inductive gcd_R (R : Led) (x y : Int) (r : Value) (led' : Led) : Prop
  | mk : ∀ J, TupL J → led' = J ++ R → ∀ u, r = .int (Int.gcd x y : Int) u → gcd_R R x y r led'
def gcd_R_T (R : Led) (x y : Int) (K7 : Value → Led → Prop) : Prop := ∀ J, ∀ u, TupL J → K7 (.int (Int.gcd x y : Int) u) (J ++ R)
theorem gcd_R_pt {R : Led} {x y : Int} (K7 : Value → Led → Prop) (k7 : gcd_R_T R x y K7) (r : Value) (led' : Led) (h7 : gcd_R R x y r led') : K7 r led' := by
  obtain ⟨_, a0, a1, _, a2⟩ := h7
  subst a1
  subst a2
  exact k7 _ _ a0
theorem gcd_tells {w : World} {R : Led} {x y : Int} {t t' : Tok} : Tells w 476 [.int x t, .int y t'] 1 R (gcd_R R x y) NoErr := by
  refine hidE ?_; simp (disch := k_dflt (
    refine hidW ?_
    intro dp un gd cn cs L a ccd cl outer A₀ base h₀ p loose mean mg mb m s Q E B F X N T hk dm hd hu hret hthr
    rename Option (List Code) => gd28Z; (k_with "ar2" => guard_hyp gd28Z; first | with_reducible exact om86 ha | with_reducible exact om90 (by assumption) | with_reducible exact om91 (by assumption))
    k_with "exec While Name cons nil" => guard_hyp gd28Z; (k_dflt (refine' while_led (J := fun n m led => (∃ J, TupL J ∧ led = J ++ R) ∧ GcdJ (Int.gcd x y : Int) n m) ?F7 ?N7 ?D7 ?J7 ?_; (case F7 => k_asm); (case N7 => k_asm); (case D7 => assumption); (case J7 => exact ⟨⟨[], tupL_nil, rfl⟩, _, _, _, _, by first | rfl | assumption, by first | rfl | assumption, rfl, by split <;> walk_at "ar", by split <;> walk_at "ar", gcd_abs⟩)); intro n m₁ led₁ h tk hJ F1 N1 D1; (refine Gen fun gG9 gK9 => ?_; obtain ⟨⟨J, hJ, rfl⟩, a9, b9, u9, t9, hm1, hm2, hn9, ha, hb, hg⟩ := hJ; refine gK9 ?_; clear gK9 gG9); (try k_sweep))
    (revert X; k_fill; intro X; refine wpAny_call ?_; k_dflt ktr_enter; walk_at "loc"; refine genT ?_; intro tk9)
    walk_at "st9"
    · (refine Gen fun gG9 gK9 => ?_; obtain ⟨q1, q2, q3⟩ := gcd_turn ha hb (by assumption); refine gK9 ?_; clear gK9 gG9)
      refine' TurnW.rot ?F ?N ?D ?n ?j
      (case F => k_asm)
      (case N => k_asm)
      (case D => walk_at "dm")
      (case n => rw [hn9]; exact q2)
      (case j => exact ⟨⟨(_, _) :: J, tupL_cons rfl hJ, rfl⟩, _, _, _, _, by first | rfl | assumption, by first | rfl | assumption, rfl, hb, q3, by rw [q1]; exact hg⟩)
    · refine' hret _ _ _ _ ?F ?N ?D ?P
      (case F => k_asm)
      (case N => k_asm)
      (case D => assumption)
      (case P =>
        have e0 : b9 = 0 := by assumption
        subst e0
        have e1 : a9 = (Int.gcd x y : Int) := by rw [← hg]; simp only [Int.gcd_zero_right]; walk_at "ar"
        exact ⟨J, hJ, rfl, _, by rw [e1]⟩))) only [↓hidL]
end Mine
namespace Mine
open PySem PySem.Calls PyProof.Rows PySem.Spec
theorem notev_tells {w : World} {sy : Addr} {σ : Sy} {S R : Led} {n : Nat} {i k : Int} {t t' : Tok} (hS : SymAt w sy σ S) (hd0 : σ.Dot) (hz : σ.Small n) (hn : n < 50000) :
    Tells w 434 [.ref sy, .int i t, .int k t'] 7 (S ++ R) (ErrRet w sy σ n (.evalu i k) R) NoErr := by
  refine hidE ?_; simp (disch := k_dflt (
    refine hidW ?_
    intro dp un gd cn cs L a ccd cl outer A₀ base h₀ p loose mean mg mb m s Q E B F X N T hk dm hd hu hret hthr
    rename Option (List Code) => gd29Z
    k_with "mine call" => guard_hyp gd29Z; first
      | k_dflt (refine' go0n (e := integer_R_pt) integer_tells ?B196 ?F196 ?X196 ?N196 ?T196 ?hk196 ?d196 ?hd196 ?hu196 ?_; (case B196 => k_asm); (case F196 => k_asm); (case X196 => k_asm); (case N196 => k_asm); (case T196 => k_asm); (case hk196 => first | exact rfl | assumption); (case d196 => walk_at "dmx"); (case hd196 => walk_at "hdx"); (case hu196 => walk_at "hux"); intro i9 n9 t9 h9 tk9 F9 N9 D9; (try dsimp only [List.cons_append, List.nil_append] at N9 D9); (try k_sweep); (try dsimp only))
      | k_dflt (refine' go0n (e := tatom_R_pt) tatom_tells ?B197 ?F197 ?X197 ?N197 ?T197 ?hk197 ?d197 ?hd197 ?hu197 ?_; (case B197 => k_asm); (case F197 => k_asm); (case X197 => k_asm); (case N197 => k_asm); (case T197 => k_asm); (case hk197 => first | exact rfl | assumption); (case d197 => walk_at "dmx"); (case hd197 => walk_at "hdx"); (case hu197 => walk_at "hux"); intro i9 n9 t9 h9 tk9 F9 N9 D9; (try dsimp only [List.cons_append, List.nil_append] at N9 D9); (try k_sweep); (try dsimp only))
      | k_dflt (refine' go1n (e := struct_R_pt) struct_tells ?B198 ?F198 ?X198 ?N198 ?T198 ?hk198 ?d198 ?r198 ?hd198 ?hu198 ?_; (case B198 => k_asm); (case F198 => k_asm); (case X198 => k_asm); (case N198 => k_asm); (case T198 => k_asm); (case hk198 => first | exact rfl | assumption); (case d198 => walk_at "dmx"); (case r198 => walk_at "rot"); (case hd198 => walk_at "hdx"); (case hu198 => walk_at "hux"); intro i9 n9 t9 h9 tk9 F9 N9 D9; (try dsimp only [List.cons_append, List.nil_append] at N9 D9); replace N9 : News _ _ _ ([_, _, _, _] ++ (S ++ R)) := N9; replace D9 : Dm ([_, _, _, _] ++ (S ++ R)) := D9; (try k_sweep); (try dsimp only))
      | k_dflt (refine' go2n (e := ptId) (type_tells (J0 := [(_, _), (_, _), (_, _), (_, _)]) (er := .evalu i k) (by assumption) (by assumption) (by assumption) (by assumption) (.head _) (.s2 (.head _) (.tail _ (.head _)) (.at (.tail _ (.tail _ (.tail _ (.head _))))) (.num (.tail _ (.tail _ (.head _))))) (fun _ => rfl) (fun _ a b => ⟨a, b⟩)) ?B199 ?F199 ?X199 ?N199 ?T199 ?hk199 ?d199 ?r199 ?rr199 ?hd199 ?hu199 ?_; (case B199 => k_asm); (case F199 => k_asm); (case X199 => k_asm); (case N199 => k_asm); (case T199 => k_asm); (case hk199 => first | exact rfl | assumption); (case d199 => walk_at "dmx"); (case r199 => walk_at "rot"); (case rr199 => walk_at "rot"); (case hd199 => walk_at "hdx"); (case hu199 => walk_at "hux"); intro r9 led9 hR9 h9 tk9 F9 N9 D9)
    refine sym_inst hS ?_; intro _ _ _ _ _ _ _ _ _ _ _ _ _ hi1 hi2
    (revert X; k_fill; intro X; refine wpAny_call ?_; k_dflt ktr_enter; walk_at "loc"; refine genT ?_; intro tk9)
    walk_at "st9"
    exact hret _ _ _ _ (by k_asm) (by k_asm) (by assumption) hR9)) only [↓hidL]
noncomputable def unE (x : Str) (v : Int) : Except Er Int :=
  if (x == Str.ofString "-") = true then .ok (-v) else if (x == Str.ofString "abs") = true then .ok (if v < 0 then -v else v) else if (x == Str.ofString "sign") = true then .ok (signV v)
  else if (x == Str.ofString "\\") = true then .ok (-v - 1) else if (x == Str.ofString "succ") = true then .ok (v + 1) else if (x == Str.ofString "msb") = true then (if v < 1 then .error (.small v) else .ok ((Builtin.Int.intBits v : Int) - 1)) else .ok v
def un_R_T (S R : Led) (x : Str) (v : Int) (K7 : Value → Led → Prop) : Prop := ∀ v', ∀ u, unE x v = .ok v' → K7 (.int v' u) (S ++ R)
def un_R (S R : Led) (x : Str) (v : Int) (r : Value) (led' : Led) : Prop := ∀ K7 : Value → Led → Prop, un_R_T S R x v K7 → K7 r led'
theorem un_R_mk {S R : Led} {x : Str} {v : Int} {r : Value} {led' : Led} : led' = S ++ R → ∀ v', ∀ u, r = .int v' u → unE x v = .ok v' → un_R S R x v r led' := by
  intro a0 _ _ a1 a2
  subst a0
  subst a1
  exact fun K7 k7 => k7 _ _ a2
theorem un_R_pt {S R : Led} {x : Str} {v : Int} (K7 : Value → Led → Prop) (k7 : un_R_T S R x v K7) (r : Value) (led' : Led) (h7 : un_R S R x v r led') : K7 r led' := h7 K7 k7
theorem un_tells {w : World} {sy : Addr} {σ : Sy} {S R : Led} {n : Nat} {x : Str} {v : Int} {t t' : Tok} (hS : SymAt w sy σ S) (hd0 : σ.Dot) (hz : σ.Small n) (hn : n < 50000) (hv : Builtin.Int.intBits v ≤ 70) :
    Tells w 511 [.ref sy, .str x t, .int v t'] 8 (S ++ R) (un_R S R x v) (fun dx led' => ∃ er, unE x v = .error er ∧ ErrAt w sy σ n er R dx led') := by
  refine hidE ?_; simp (disch := k_dflt (
    refine hidW ?_
    intro dp un gd cn cs L a ccd cl outer A₀ base h₀ p loose mean mg mb m s Q E B F X N T hk dm hd hu hret hthr
    have hv9 := intBits_le_iff.mp hv
    rename Option (List Code) => gd30Z
    k_with "mine call" => guard_hyp gd30Z; first
      | k_dflt (refine' go0n (e := sign_R_pt) sign_tells ?B202 ?F202 ?X202 ?N202 ?T202 ?hk202 ?d202 ?hd202 ?hu202 ?_; (case B202 => k_asm); (case F202 => k_asm); (case X202 => k_asm); (case N202 => k_asm); (case T202 => k_asm); (case hk202 => first | exact rfl | assumption); (case d202 => walk_at "dmx"); (case hd202 => walk_at "hdx"); (case hu202 => walk_at "hux"); intro u9 h9 tk9 F9 N9 D9; (try k_sweep); (try dsimp only))
      | k_dflt (refine' go0n (e := integer_R_pt) integer_tells ?B203 ?F203 ?X203 ?N203 ?T203 ?hk203 ?d203 ?hd203 ?hu203 ?_; (case B203 => k_asm); (case F203 => k_asm); (case X203 => k_asm); (case N203 => k_asm); (case T203 => k_asm); (case hk203 => first | exact rfl | assumption); (case d203 => walk_at "dmx"); (case hd203 => walk_at "hdx"); (case hu203 => walk_at "hux"); intro i9 n9 t9 h9 tk9 F9 N9 D9; (try dsimp only [List.cons_append, List.nil_append] at N9 D9); (try k_sweep); (try dsimp only))
      | k_dflt (refine' go2n (e := ErrRet_pt) (type_tells (J0 := [(_, _)]) (er := .small v) (by assumption) (by assumption) (by assumption) (by assumption) (.head _) (.num (.head _)) (fun _ => rfl) (fun _ a b => ⟨a, b⟩)) ?B204 ?F204 ?X204 ?N204 ?T204 ?hk204 ?d204 ?r204 ?rr204 ?hd204 ?hu204 ?_; (case B204 => k_asm); (case F204 => k_asm); (case X204 => k_asm); (case N204 => k_asm); (case T204 => k_asm); (case hk204 => first | exact rfl | assumption); (case d204 => walk_at "dmx"); (case r204 => walk_at "rot"); (case rr204 => walk_at "rot"); (case hd204 => walk_at "hdx"); (case hu204 => walk_at "hux"); intro S9 σ9 e9 dx9 t9 hs9 k9 v9 J9 hS9 hle9 hD9 hsm9 hK9 hv9 h9 tk9 F9 N9 D9; (try k_sweep); (try dsimp only))
    refine sym_inst hS ?_; intro _ _ _ _ _ _ _ _ _ _ _ _ _ hi1 hi2
    (revert X; k_fill; intro X; refine wpAny_call ?_; k_dflt ktr_enter; walk_at "loc"; refine genT ?_; intro tk9)
    walk_at "st9"
    all_goals first
      | (refine' hret _ _ _ _ ?F ?N ?D ?P; (case F => k_asm); (case N => k_asm); (case D => first | assumption | walk_at "dm"); (case P => exact un_R_mk rfl _ _ rfl (by unfold unE; first | ((repeat first | refine (if_neg (by assumption)).trans ?_ | refine (if_neg (ne_true_of_eq_false (by assumption))).trans ?_); first | rfl | assumption | exact (if_pos (by assumption)).trans rfl | exact (if_pos (by assumption)).trans (by assumption) | exact congrArg Except.ok (if_neg (by assumption)) | exact (if_pos (by assumption)).trans (congrArg Except.ok (if_neg (by assumption))) | exact (if_pos (by assumption)).trans (congrArg Except.ok (if_pos (by assumption))); done) | (simp only [*, if_true, Bool.false_eq_true, if_false, Bool.not_true, Bool.not_false, Bool.or_true, Bool.true_or, Bool.or_false, Bool.false_or]; done) | (simp [*]; done))))
      | (refine' hthr _ _ _ _ _ _ ?F206 ?U206 ?R206 ?D206 ?P; (case U206 => assumption); (case F206 => assumption); (case R206 => assumption); (case D206 => assumption); (case P => exact ⟨_, by unfold unE; first | ((repeat first | refine (if_neg (by assumption)).trans ?_ | refine (if_neg (ne_true_of_eq_false (by assumption))).trans ?_); first | rfl | assumption | exact (if_pos (by assumption)).trans rfl | exact (if_pos (by assumption)).trans (by assumption) | exact congrArg Except.ok (if_neg (by assumption)) | exact (if_pos (by assumption)).trans (congrArg Except.ok (if_neg (by assumption))) | exact (if_pos (by assumption)).trans (congrArg Except.ok (if_pos (by assumption))); done) | (simp only [*, if_true, Bool.false_eq_true, if_false, Bool.or_true, Bool.true_or, Bool.or_false, Bool.false_or]; done) | (simp [*]; done), S9, σ9, _, _, _, _, hS9, hle9, hD9, hsm9, hK9, by assumption, rfl⟩))
      | ((refine Gen fun gG9 gK9 => ?_; obtain ⟨er9, q9, hA9⟩ := hE9; refine gK9 ?_; clear gK9 gG9); (refine Gen fun gG9 gK9 => ?_; obtain ⟨led8, hB9, hC9⟩ := hA9.drop (by walk_at "rot"); refine gK9 ?_; clear gK9 gG9); exact hthr _ _ _ _ _ _ (by assumption) (by assumption) (Rz.sub (by assumption) hC9.1) (hC9.2 (by assumption)) ⟨er9, by unfold unE; first | ((repeat first | refine (if_neg (by assumption)).trans ?_ | refine (if_neg (ne_true_of_eq_false (by assumption))).trans ?_); first | rfl | assumption | exact (if_pos (by assumption)).trans rfl | exact (if_pos (by assumption)).trans (by assumption) | exact congrArg Except.ok (if_neg (by assumption)) | exact (if_pos (by assumption)).trans (congrArg Except.ok (if_neg (by assumption))) | exact (if_pos (by assumption)).trans (congrArg Except.ok (if_pos (by assumption))); done) | (simp only [*, if_true, Bool.false_eq_true, if_false, Bool.or_true, Bool.true_or, Bool.or_false, Bool.false_or]; done) | (simp [*]; done), hB9⟩))) only [↓hidL]
noncomputable def divE (x : Str) (a b : Int) : Except Er Int :=
  if b = 0 then .error .zero else if (x == Str.ofString "//") = true then .ok (divT a b) else if (x == Str.ofString "rem") = true then .ok (remV a b) else if (x == Str.ofString "mod") = true then .ok (a.fmod b) else .ok (a.fdiv b)
def div_R_T (S R : Led) (x : Str) (a1 b1 : Int) (K7 : Value → Led → Prop) : Prop := ∀ v', ∀ u, divE x a1 b1 = .ok v' → K7 (.int v' u) (S ++ R)
def div_R (S R : Led) (x : Str) (a1 b1 : Int) (r : Value) (led' : Led) : Prop := ∀ K7 : Value → Led → Prop, div_R_T S R x a1 b1 K7 → K7 r led'
theorem div_R_mk {S R : Led} {x : Str} {a1 b1 : Int} {r : Value} {led' : Led} : led' = S ++ R → ∀ v', ∀ u, r = .int v' u → divE x a1 b1 = .ok v' → div_R S R x a1 b1 r led' := by
  intro a0 _ _ a1 a2
  subst a0
  subst a1
  exact fun K7 k7 => k7 _ _ a2
theorem div_R_pt {S R : Led} {x : Str} {a1 b1 : Int} (K7 : Value → Led → Prop) (k7 : div_R_T S R x a1 b1 K7) (r : Value) (led' : Led) (h7 : div_R S R x a1 b1 r led') : K7 r led' := h7 K7 k7
theorem div_tells {w : World} {sy : Addr} {σ : Sy} {S R : Led} {n : Nat} {x : Str} {a1 b1 : Int} {t t' t2 : Tok} (hS : SymAt w sy σ S) (hd0 : σ.Dot) (hz : σ.Small n) (hn : n < 50000) (ha : Builtin.Int.intBits a1 ≤ 70) (hb : Builtin.Int.intBits b1 ≤ 70) :
    Tells w 518 [.ref sy, .str x t, .int a1 t', .int b1 t2] 8 (S ++ R) (div_R S R x a1 b1) (fun dx led' => ∃ er, divE x a1 b1 = .error er ∧ ErrAt w sy σ n er R dx led') := by
  refine hidE ?_; simp (disch := k_dflt (
    refine hidW ?_
    intro dp un gd cn cs L a ccd cl outer A₀ base h₀ p loose mean mg mb m s Q E B F X N T hk dm hd hu hret hthr
    rename Option (List Code) => gd31Z
    k_with "mine call" => guard_hyp gd31Z; first
      | k_dflt (refine' go0n (e := divT_R_pt) (divT_tells (by assumption) (by assumption)) ?B208 ?F208 ?X208 ?N208 ?T208 ?hk208 ?d208 ?hd208 ?hu208 ?_; (case B208 => k_asm); (case F208 => k_asm); (case X208 => k_asm); (case N208 => k_asm); (case T208 => k_asm); (case hk208 => first | exact rfl | assumption); (case d208 => walk_at "dmx"); (case hd208 => walk_at "hdx"); (case hu208 => walk_at "hux"); intro u9 h9 tk9 F9 N9 D9; (try k_sweep); (try dsimp only))
      | k_dflt (refine' go0n (e := rem_R_pt) (rem_tells (by assumption) (by assumption) (by assumption)) ?B209 ?F209 ?X209 ?N209 ?T209 ?hk209 ?d209 ?hd209 ?hu209 ?_; (case B209 => k_asm); (case F209 => k_asm); (case X209 => k_asm); (case N209 => k_asm); (case T209 => k_asm); (case hk209 => first | exact rfl | assumption); (case d209 => walk_at "dmx"); (case hd209 => walk_at "hdx"); (case hu209 => walk_at "hux"); intro u9 h9 tk9 F9 N9 D9; (try k_sweep); (try dsimp only))
      | k_dflt (refine' go1n (e := ErrRet_pt) (zero_tells (by assumption) (by assumption) (by assumption) (by assumption)) ?B210 ?F210 ?X210 ?N210 ?T210 ?hk210 ?d210 ?r210 ?hd210 ?hu210 ?_; (case B210 => k_asm); (case F210 => k_asm); (case X210 => k_asm); (case N210 => k_asm); (case T210 => k_asm); (case hk210 => first | exact rfl | assumption); (case d210 => walk_at "dmx"); (case r210 => walk_at "rot"); (case hd210 => walk_at "hdx"); (case hu210 => walk_at "hux"); intro S9 σ9 e9 dx9 t9 hs9 k9 v9 J9 hS9 hle9 hD9 hsm9 hK9 hv9 h9 tk9 F9 N9 D9; (try k_sweep); (try dsimp only))
    refine sym_inst hS ?_; intro _ _ _ _ _ _ _ _ _ _ _ _ _ hi1 hi2
    (revert X; k_fill; intro X; refine wpAny_call ?_; k_dflt ktr_enter; walk_at "loc"; refine genT ?_; intro tk9)
    walk_at "st9"
    all_goals first
      | (refine' hret _ _ _ _ ?F ?N ?D ?P; (case F => k_asm); (case N => k_asm); (case D => first | assumption | walk_at "dm"); (case P => exact div_R_mk rfl _ _ rfl (by unfold divE; first | ((repeat first | refine (if_neg (by assumption)).trans ?_ | refine (if_neg (ne_true_of_eq_false (by assumption))).trans ?_); first | rfl | assumption | exact (if_pos (by assumption)).trans rfl | exact (if_pos (by assumption)).trans (by assumption) | exact congrArg Except.ok (if_neg (by assumption)) | exact (if_pos (by assumption)).trans (congrArg Except.ok (if_neg (by assumption))) | exact (if_pos (by assumption)).trans (congrArg Except.ok (if_pos (by assumption))); done) | (simp only [*, if_true, Bool.false_eq_true, if_false, Bool.not_true, Bool.not_false, Bool.or_true, Bool.true_or, Bool.or_false, Bool.false_or]; done) | (simp [*]; done))))
      | (refine' hthr _ _ _ _ _ _ ?F212 ?U212 ?R212 ?D212 ?P; (case U212 => assumption); (case F212 => assumption); (case R212 => assumption); (case D212 => assumption); (case P => exact ⟨_, by unfold divE; first | ((repeat first | refine (if_neg (by assumption)).trans ?_ | refine (if_neg (ne_true_of_eq_false (by assumption))).trans ?_); first | rfl | assumption | exact (if_pos (by assumption)).trans rfl | exact (if_pos (by assumption)).trans (by assumption) | exact congrArg Except.ok (if_neg (by assumption)) | exact (if_pos (by assumption)).trans (congrArg Except.ok (if_neg (by assumption))) | exact (if_pos (by assumption)).trans (congrArg Except.ok (if_pos (by assumption))); done) | (simp only [*, if_true, Bool.false_eq_true, if_false, Bool.or_true, Bool.true_or, Bool.or_false, Bool.false_or]; done) | (simp [*]; done), S9, σ9, _, _, _, _, hS9, hle9, hD9, hsm9, hK9, by assumption, rfl⟩))
      | ((refine Gen fun gG9 gK9 => ?_; obtain ⟨er9, q9, hA9⟩ := hE9; refine gK9 ?_; clear gK9 gG9); (refine Gen fun gG9 gK9 => ?_; obtain ⟨led8, hB9, hC9⟩ := hA9.drop (by walk_at "rot"); refine gK9 ?_; clear gK9 gG9); exact hthr _ _ _ _ _ _ (by assumption) (by assumption) (Rz.sub (by assumption) hC9.1) (hC9.2 (by assumption)) ⟨er9, by unfold divE; first | ((repeat first | refine (if_neg (by assumption)).trans ?_ | refine (if_neg (ne_true_of_eq_false (by assumption))).trans ?_); first | rfl | assumption | exact (if_pos (by assumption)).trans rfl | exact (if_pos (by assumption)).trans (by assumption) | exact congrArg Except.ok (if_neg (by assumption)) | exact (if_pos (by assumption)).trans (congrArg Except.ok (if_neg (by assumption))) | exact (if_pos (by assumption)).trans (congrArg Except.ok (if_pos (by assumption))); done) | (simp only [*, if_true, Bool.false_eq_true, if_false, Bool.or_true, Bool.true_or, Bool.or_false, Bool.false_or]; done) | (simp [*]; done), hB9⟩))) only [↓hidL]
noncomputable def bitsE (x : Str) (a b mx : Int) : Except Er Int :=
  if (x == Str.ofString ">>") = true then shrE a b mx else if (x == Str.ofString "<<") = true then shlE a b mx else if (x == Str.ofString "/\\") = true then .ok (Builtin.bitAnd a b) else if (x == Str.ofString "\\/") = true then .ok (Builtin.bitOr a b) else .ok (Builtin.bitXor a b)
def bits_R_T (S R : Led) (x : Str) (a1 b1 mx : Int) (K7 : Value → Led → Prop) : Prop := ∀ v', ∀ u, bitsE x a1 b1 mx = .ok v' → K7 (.int v' u) (S ++ R)
def bits_R (S R : Led) (x : Str) (a1 b1 mx : Int) (r : Value) (led' : Led) : Prop := ∀ K7 : Value → Led → Prop, bits_R_T S R x a1 b1 mx K7 → K7 r led'
theorem bits_R_mk {S R : Led} {x : Str} {a1 b1 mx : Int} {r : Value} {led' : Led} : led' = S ++ R → ∀ v', ∀ u, r = .int v' u → bitsE x a1 b1 mx = .ok v' → bits_R S R x a1 b1 mx r led' := by
  intro a0 _ _ a1 a2
  subst a0
  subst a1
  exact fun K7 k7 => k7 _ _ a2
theorem bits_R_pt {S R : Led} {x : Str} {a1 b1 mx : Int} (K7 : Value → Led → Prop) (k7 : bits_R_T S R x a1 b1 mx K7) (r : Value) (led' : Led) (h7 : bits_R S R x a1 b1 mx r led') : K7 r led' := h7 K7 k7
theorem bits_tells {w : World} {sy : Addr} {σ : Sy} {S R : Led} {n : Nat} {x : Str} {a1 b1 mx : Int} {t t' t2 t3 : Tok} (hS : SymAt w sy σ S) (hd0 : σ.Dot) (hz : σ.Small n) (hn : n < 50000) (hmx : mx < 100) :
    Tells w 525 [.ref sy, .str x t, .int a1 t', .int b1 t2, .int mx t3] 10 (S ++ R) (bits_R S R x a1 b1 mx) (fun dx led' => ∃ er, bitsE x a1 b1 mx = .error er ∧ ErrAt w sy σ n er R dx led') := by
  refine hidE ?_; simp (disch := k_dflt (
    refine hidW ?_
    intro dp un gd cn cs L a ccd cl outer A₀ base h₀ p loose mean mg mb m s Q E B F X N T hk dm hd hu hret hthr
    rename Option (List Code) => gd32Z
    k_with "mine call" => guard_hyp gd32Z; first
      | k_dflt (refine' go1 (e := shl_R_pt) (shl_tells (by assumption) (by assumption) (by assumption) (by assumption) (by assumption)) ?B214 ?F214 ?X214 ?N214 ?T214 ?hk214 ?d214 ?r214 ?hd214 ?hu214 ?_ ?_; (case B214 => k_asm); (case F214 => k_asm); (case X214 => k_asm); (case N214 => k_asm); (case T214 => k_asm); (case hk214 => first | exact rfl | assumption); (case d214 => walk_at "dmx"); (case r214 => walk_at "rot"); (case hd214 => walk_at "hdx"); (case hu214 => walk_at "hux"); rotate_left; intro e9 dx9 led9 h9 tk9 g9 F9 U9 R9 D9 hE9; (try dsimp only); rotate_left; intro v9 u9 q9 h9 tk9 F9 N9 D9; (try k_sweep); (try dsimp only))
      | k_dflt (refine' go1 (e := shr_R_pt) (shr_tells (by assumption) (by assumption) (by assumption) (by assumption) (by assumption)) ?B215 ?F215 ?X215 ?N215 ?T215 ?hk215 ?d215 ?r215 ?hd215 ?hu215 ?_ ?_; (case B215 => k_asm); (case F215 => k_asm); (case X215 => k_asm); (case N215 => k_asm); (case T215 => k_asm); (case hk215 => first | exact rfl | assumption); (case d215 => walk_at "dmx"); (case r215 => walk_at "rot"); (case hd215 => walk_at "hdx"); (case hu215 => walk_at "hux"); rotate_left; intro e9 dx9 led9 h9 tk9 g9 F9 U9 R9 D9 hE9; (try dsimp only); rotate_left; intro v9 u9 q9 h9 tk9 F9 N9 D9; (try k_sweep); (try dsimp only))
    refine sym_inst hS ?_; intro _ _ _ _ _ _ _ _ _ _ _ _ _ hi1 hi2
    (revert X; k_fill; intro X; refine wpAny_call ?_; k_dflt ktr_enter; walk_at "loc"; refine genT ?_; intro tk9)
    walk_at "st9"
    all_goals first
      | (refine' hret _ _ _ _ ?F ?N ?D ?P; (case F => k_asm); (case N => k_asm); (case D => first | assumption | walk_at "dm"); (case P => exact bits_R_mk rfl _ _ rfl (by unfold bitsE; first | ((repeat first | refine (if_neg (by assumption)).trans ?_ | refine (if_neg (ne_true_of_eq_false (by assumption))).trans ?_); first | rfl | assumption | exact (if_pos (by assumption)).trans rfl | exact (if_pos (by assumption)).trans (by assumption) | exact congrArg Except.ok (if_neg (by assumption)) | exact (if_pos (by assumption)).trans (congrArg Except.ok (if_neg (by assumption))) | exact (if_pos (by assumption)).trans (congrArg Except.ok (if_pos (by assumption))); done) | (simp only [*, if_true, Bool.false_eq_true, if_false, Bool.not_true, Bool.not_false, Bool.or_true, Bool.true_or, Bool.or_false, Bool.false_or]; done) | (simp [*]; done))))
      | (refine' hthr _ _ _ _ _ _ ?F217 ?U217 ?R217 ?D217 ?P; (case U217 => assumption); (case F217 => assumption); (case R217 => assumption); (case D217 => assumption); (case P => exact ⟨_, by unfold bitsE; first | ((repeat first | refine (if_neg (by assumption)).trans ?_ | refine (if_neg (ne_true_of_eq_false (by assumption))).trans ?_); first | rfl | assumption | exact (if_pos (by assumption)).trans rfl | exact (if_pos (by assumption)).trans (by assumption) | exact congrArg Except.ok (if_neg (by assumption)) | exact (if_pos (by assumption)).trans (congrArg Except.ok (if_neg (by assumption))) | exact (if_pos (by assumption)).trans (congrArg Except.ok (if_pos (by assumption))); done) | (simp only [*, if_true, Bool.false_eq_true, if_false, Bool.or_true, Bool.true_or, Bool.or_false, Bool.false_or]; done) | (simp [*]; done), S9, σ9, _, _, _, _, hS9, hle9, hD9, hsm9, hK9, by assumption, rfl⟩))
      | ((refine Gen fun gG9 gK9 => ?_; obtain ⟨er9, q9, hA9⟩ := hE9; refine gK9 ?_; clear gK9 gG9); (refine Gen fun gG9 gK9 => ?_; obtain ⟨led8, hB9, hC9⟩ := hA9.drop (by walk_at "rot"); refine gK9 ?_; clear gK9 gG9); exact hthr _ _ _ _ _ _ (by assumption) (by assumption) (Rz.sub (by assumption) hC9.1) (hC9.2 (by assumption)) ⟨er9, by unfold bitsE; first | ((repeat first | refine (if_neg (by assumption)).trans ?_ | refine (if_neg (ne_true_of_eq_false (by assumption))).trans ?_); first | rfl | assumption | exact (if_pos (by assumption)).trans rfl | exact (if_pos (by assumption)).trans (by assumption) | exact congrArg Except.ok (if_neg (by assumption)) | exact (if_pos (by assumption)).trans (congrArg Except.ok (if_neg (by assumption))) | exact (if_pos (by assumption)).trans (congrArg Except.ok (if_pos (by assumption))); done) | (simp only [*, if_true, Bool.false_eq_true, if_false, Bool.or_true, Bool.true_or, Bool.or_false, Bool.false_or]; done) | (simp [*]; done), hB9⟩))) only [↓hidL]
inductive chk_R (S R : Led) (r : Value) (led' : Led) : Prop
  | mk : led' = S ++ R → r = .none → chk_R S R r led'
def chk_R_T (S R : Led) (K7 : Value → Led → Prop) : Prop := K7 (.none) (S ++ R)
theorem chk_R_pt {S R : Led} (K7 : Value → Led → Prop) (k7 : chk_R_T S R K7) (r : Value) (led' : Led) (h7 : chk_R S R r led') : K7 r led' := by
  obtain ⟨a0, a1⟩ := h7
  subst a0
  subst a1
  exact k7
theorem chk_tells {w : World} {sy : Addr} {σ : Sy} {S R : Led} {f : Int} {fx : Int × Int} {x : Str} {t : Tok} (hS : SymAt w sy σ S) (h0 : 0 ≤ f) (hz : f < 100000) (hf : σ.funs[f.toNat]? = some fx) (h1 : 0 ≤ fx.1) (h2 : fx.1 < 100000) (hx : σ.texts[fx.1.toNat]? = some x) (hev : isEv x fx.2 = true) :
    Tells w 448 [.ref sy, .int f t] 3 (S ++ R) (chk_R S R) NoErr := by
  refine hidE ?_; simp (disch := k_dflt (
    refine hidW ?_
    intro dp un gd cn cs L a ccd cl outer A₀ base h₀ p loose mean mg mb m s Q E B F X N T hk dm hd hu hret hthr
    rename Option (List Code) => gd33Z
    k_with "mine call" => guard_hyp gd33Z; first
      | k_dflt (refine' go1n (e := name_R_pt) (name_tells (by assumption) (by assumption) (by assumption) (by assumption)) ?B219 ?F219 ?X219 ?N219 ?T219 ?hk219 ?d219 ?r219 ?hd219 ?hu219 ?_; (case B219 => k_asm); (case F219 => k_asm); (case X219 => k_asm); (case N219 => k_asm); (case T219 => k_asm); (case hk219 => first | exact rfl | assumption); (case d219 => walk_at "dmx"); (case r219 => walk_at "rot"); (case hd219 => walk_at "hdx"); (case hu219 => walk_at "hux"); intro u9 h9 tk9 F9 N9 D9; (try k_sweep); (try dsimp only))
      | k_dflt (refine' go1n (e := arity_R_pt) (arity_tells (by assumption) (by assumption) (by assumption) (by assumption)) ?B220 ?F220 ?X220 ?N220 ?T220 ?hk220 ?d220 ?r220 ?hd220 ?hu220 ?_; (case B220 => k_asm); (case F220 => k_asm); (case X220 => k_asm); (case N220 => k_asm); (case T220 => k_asm); (case hk220 => first | exact rfl | assumption); (case d220 => walk_at "dmx"); (case r220 => walk_at "rot"); (case hd220 => walk_at "hdx"); (case hu220 => walk_at "hux"); intro u9 h9 tk9 F9 N9 D9; (try k_sweep); (try dsimp only))
      | k_dflt (refine' go1n (e := text_R_pt) (text_tells (by assumption) (by assumption) (by assumption) (by assumption)) ?B221 ?F221 ?X221 ?N221 ?T221 ?hk221 ?d221 ?r221 ?hd221 ?hu221 ?_; (case B221 => k_asm); (case F221 => k_asm); (case X221 => k_asm); (case N221 => k_asm); (case T221 => k_asm); (case hk221 => first | exact rfl | assumption); (case d221 => walk_at "dmx"); (case r221 => walk_at "rot"); (case hd221 => walk_at "hdx"); (case hu221 => walk_at "hux"); intro u9 h9 tk9 F9 N9 D9; (try k_sweep); (try dsimp only))
      | k_dflt (refine' go0n (e := isev_R_pt) isev_tells ?B222 ?F222 ?X222 ?N222 ?T222 ?hk222 ?d222 ?hd222 ?hu222 ?_; (case B222 => k_asm); (case F222 => k_asm); (case X222 => k_asm); (case N222 => k_asm); (case T222 => k_asm); (case hk222 => first | exact rfl | assumption); (case d222 => walk_at "dmx"); (case hd222 => walk_at "hdx"); (case hu222 => walk_at "hux"); intro  h9 tk9 F9 N9 D9; rw [hev]; (try k_sweep); (try dsimp only))
    refine sym_inst hS ?_; intro _ _ _ _ _ _ _ _ _ _ _ _ _ hi1 hi2
    (revert X; k_fill; intro X; refine wpAny_call ?_; k_dflt ktr_enter; walk_at "loc"; refine genT ?_; intro tk9)
    walk_at "st9"
    exact hret _ _ _ _ (by k_asm) (by k_asm) (by assumption) ⟨rfl, rfl⟩)) only [↓hidL]
end Mine
namespace Mine
open PySem PySem.Calls PyProof.Rows PySem.Spec
noncomputable def binE (x : Str) (a b mx : Int) : Except Er Int :=
  if (x == Str.ofString "+") = true then .ok (a + b) else if (x == Str.ofString "plus") = true then .ok (a + b) else if (x == Str.ofString "-") = true then .ok (a - b) else if (x == Str.ofString "*") = true then .ok (a * b)
  else if ([Str.ofString "//", Str.ofString "rem", Str.ofString "mod", Str.ofString "div"].any fun y => y == x) = true then divE x a b
  else if (x == Str.ofString "^") = true then powE a b mx else if (x == Str.ofString "**") = true then powE a b mx
  else if (x == Str.ofString "min") = true then .ok (if b < a then b else a) else if (x == Str.ofString "max") = true then .ok (if a < b then b else a) else if (x == Str.ofString "gcd") = true then .ok (Int.gcd a b : Int) else bitsE x a b mx
theorem iteE {c : Prop} [Decidable c] {α : Type} {a b v : α} {G : Prop} (h : (if c then a else b) = v) (k1 : a = v → G) (k2 : b = v → G) : G := by
  by_cases hc : c
  · exact k1 (by rw [if_pos hc] at h; exact h)
  · exact k2 (by rw [if_neg hc] at h; exact h)
/-- what a value's bound becomes when the value is given -/
theorem okB {a v : Int} {n : Nat} {ε : Type} (h : (Except.ok a : Except ε Int) = .ok v) (k : Builtin.Int.intBits a ≤ n) (hn : n ≤ 200) : Builtin.Int.intBits v ≤ 200 := by
  rw [← Except.ok.inj h]; exact Nat.le_trans k hn
theorem iteB {c : Prop} [Decidable c] {a b : Int} {n : Nat} (h1 : Builtin.Int.intBits a ≤ n) (h2 : Builtin.Int.intBits b ≤ n) : Builtin.Int.intBits (if c then a else b) ≤ n := by
  by_cases hc : c
  · rw [if_pos hc]; exact h1
  · rw [if_neg hc]; exact h2
theorem smallB {v a : Int} (hv : v.natAbs ≤ 2 ^ 70) (h : a.natAbs ≤ v.natAbs + 2) : Builtin.Int.intBits a ≤ 200 :=
  intBits_le_iff.mpr (Nat.lt_of_le_of_lt h (Nat.lt_of_le_of_lt (Nat.add_le_add_right hv 2) (by decide)))
theorem p70 : (2 : Nat) ^ 70 = 1180591620717411303424 := by decide
theorem p72 : (2 : Nat) ^ 72 = 4722366482869645213696 := by decide
theorem p200 : (2 : Nat) ^ 200 = 1606938044258990275541962092341162602522202993782792835301376 := by decide
theorem bits_200 {v : Int} (h : v.natAbs ≤ 2 ^ 72) : Builtin.Int.intBits v ≤ 200 := intBits_le_iff.mpr (by rw [p72] at h; rw [p200]; (first | with_reducible exact om203 h | omega))
theorem un1 {v : Int} : (-v).natAbs ≤ v.natAbs + 2 := by (first | with_reducible exact om207 | omega)
theorem un2 {v : Int} : (-v - 1).natAbs ≤ v.natAbs + 2 := by (first | with_reducible exact om199 | omega)
theorem un3 {v : Int} : (v + 1).natAbs ≤ v.natAbs + 2 := by (first | with_reducible exact om208 | omega)
theorem un4 {v : Int} : v.natAbs ≤ v.natAbs + 2 := by (first | with_reducible exact om201 | omega)
theorem bits_un {x : Str} {v v1 : Int} (h : unE x v = .ok v1) (hv : Builtin.Int.intBits v ≤ 70) : Builtin.Int.intBits v1 ≤ 200 := by
  have hv0 := Nat.le_of_lt (intBits_le_iff.mp hv)
  unfold unE at h
  refine iteE h (fun h => okB h (smallB hv0 un1) (by decide)) fun h => ?_
  refine iteE h (fun h => okB h (iteB (smallB hv0 un1) (smallB hv0 un4)) (by decide)) fun h => ?_
  refine iteE h (fun h => okB (n := 200) h (iteB (by decide) (iteB (by decide) (by decide))) (by decide)) fun h => ?_
  refine iteE h (fun h => okB h (smallB hv0 un2) (by decide)) fun h => ?_
  refine iteE h (fun h => okB h (smallB hv0 un3) (by decide)) fun h => ?_
  refine iteE h (fun h => iteE h (fun h => nomatch h) fun h => okB h (smallB (v := 70) (by decide) ?_) (by decide)) fun h => okB h (smallB hv0 un4) (by decide)
  show (((Builtin.Int.intBits v : Nat) : Int) - 1).natAbs ≤ 72
  (first | with_reducible exact om206 hv | omega)
theorem ab2 {x : Int} {B : Nat} (hx : x.natAbs ≤ B) (h : ¬ 0 ≤ x) (hB : 0 < B) : (-x - 1).toNat < B := by omega
theorem ab3 {n B : Nat} (h : n < B) : (-(n : Int) - 1).natAbs ≤ B := by (first | with_reducible exact om212 h | omega)
theorem toNat_abs {x : Int} : x.toNat ≤ x.natAbs := by
  cases x with
  | ofNat n => exact Nat.le_refl n
  | negSucc n => exact Nat.zero_le _
theorem subA {n k B : Nat} (h : k ≤ n) (hn : n ≤ B) : ((n : Int) - (k : Int)).natAbs ≤ B := by
  rw [← Int.ofNat_sub h]; exact Nat.le_trans (Nat.sub_le _ _) hn
theorem and_bound {x y : Int} {m : Nat} (hx : x.natAbs ≤ 2 ^ m) (hy : y.natAbs ≤ 2 ^ m) : (Builtin.bitAnd x y).natAbs ≤ 2 ^ (m + 1) := by
  have h2 : 2 ^ m ≤ 2 ^ (m + 1) := Nat.pow_le_pow_right (by decide) (Nat.le_succ m)
  have h0 : 0 < 2 ^ m := Nat.two_pow_pos m
  refine Nat.le_trans ?_ h2
  unfold Builtin.bitAnd Builtin.bitNot
  split
  · exact Nat.le_trans (Nat.and_le_left (n := x.toNat) (m := y.toNat)) (Nat.le_trans toNat_abs hx)
  · rename_i h1 h3
    obtain ⟨n, rfl⟩ := Int.eq_ofNat_of_zero_le (of_decide_eq_true h1)
    exact subA (Nat.and_le_left (n := n)) hx
  · rename_i h1 h3
    obtain ⟨n, rfl⟩ := Int.eq_ofNat_of_zero_le (of_decide_eq_true h3)
    exact subA (Nat.and_le_left (n := n)) hy
  · rename_i h1 h3
    simp only [decide_eq_false_iff_not] at h1 h3
    exact ab3 (Nat.or_lt_two_pow (ab2 hx h1 h0) (ab2 hy h3 h0))
theorem bits_shr {x c v : Int} (h : shrV x c = v) (hx : Builtin.Int.intBits x ≤ 70) : Builtin.Int.intBits v ≤ 200 := by
  subst h
  unfold shrV
  split
  · split <;> exact intBits_le_iff.mpr (by rw [p200]; decide)
  · exact bits_mono (intBits_fdiv_le hx) (by decide)
theorem bits_shl {x c mx v : Int} (h : shlE x c mx = .ok v) (hx : Builtin.Int.intBits x ≤ 70) (hm : mx < 100) : Builtin.Int.intBits v ≤ 200 := by
  unfold shlE at h
  split at h
  · exact bits_shr (Except.ok.inj h) hx
  split at h
  · cases h; exact intBits_le_iff.mpr (by rw [p200]; decide)
  split at h
  · cases h
  · cases h
    rename_i h1 h2 h3
    refine bits_mono (n := 200) (m := Builtin.Int.intBits x + c.toNat) ?_ (by (first | with_reducible exact om202 hm h1 h3 | omega))
    have h5 := intBits_le_iff.mp (Nat.le_refl (Builtin.Int.intBits x))
    refine intBits_le_iff.mpr ?_
    rw [Int.natAbs_mul, Int.natAbs_pow, Nat.pow_add]
    exact Nat.mul_lt_mul_of_pos_right h5 (Nat.two_pow_pos _)
theorem bits_pow {b e mx v : Int} (h : powE b e mx = .ok v) (hm : mx < 100) : Builtin.Int.intBits v ≤ 200 := by
  unfold powE at h
  have one : ∀ z : Int, z.natAbs ≤ 1 → Builtin.Int.intBits z ≤ 200 := fun z hz => bits_200 (by rw [p72]; (first | with_reducible exact om200 hm h6 h7 h8 | with_reducible exact om209 h3 | with_reducible exact om210 hb | with_reducible exact om214 hz | with_reducible exact om90 h3 | omega))
  split at h
  · cases h; exact one _ (by decide)
  split at h
  · split at h <;> (cases h; exact one _ (by decide))
  split at h
  · cases h
  split at h
  · cases h; exact one _ (by decide)
  split at h
  · cases h; exact one _ (by decide)
  split at h
  · cases h
  · cases h
    rename_i h1 h2 h3 h4 h5 h6
    have hb := bits_two h1 h2 h5
    refine bits_mono (intBits_pow_le (Nat.le_refl _) _) ?_
    have e1 : (e.toNat : Int) = e := by (first | with_reducible exact om200 hm h6 h7 h8 | with_reducible exact om209 h3 | with_reducible exact om210 hb | with_reducible exact om214 hz | with_reducible exact om90 h3 | omega)
    have h7 : (Builtin.Int.intBits b : Int) * e ≤ 2 * (((Builtin.Int.intBits b : Int) - 1) * e) := by
      rw [← Int.mul_assoc]
      exact Int.mul_le_mul_of_nonneg_right (by (first | with_reducible exact om200 hm h6 h7 h8 | with_reducible exact om209 h3 | with_reducible exact om210 hb | with_reducible exact om214 hz | with_reducible exact om90 h3 | omega)) (by (first | with_reducible exact om200 hm h6 h7 h8 | with_reducible exact om209 h3 | with_reducible exact om210 hb | with_reducible exact om214 hz | with_reducible exact om90 h3 | omega))
    have h8 : ((Builtin.Int.intBits b * e.toNat : Nat) : Int) = (Builtin.Int.intBits b : Int) * e := by rw [Int.natCast_mul, e1]
    (first | with_reducible exact om200 hm h6 h7 h8 | with_reducible exact om209 h3 | with_reducible exact om210 hb | with_reducible exact om214 hz | with_reducible exact om90 h3 | omega)
theorem bits_div {x : Str} {a b v1 : Int} (h : divE x a b = .ok v1) (ha : Builtin.Int.intBits a ≤ 70) (hb : Builtin.Int.intBits b ≤ 70) : Builtin.Int.intBits v1 ≤ 200 := by
  unfold divE at h
  refine iteE h (fun h => nomatch h) fun h => ?_
  refine iteE h (fun h => okB h (bits_divT ha) (by decide)) fun h => ?_
  refine iteE h (fun h => okB h (show Builtin.Int.intBits (remV a b) ≤ _ from intBits_sub_le ha (intBits_mul_le hb (bits_divT ha))) (by decide)) fun h => ?_
  exact iteE h (fun h => okB h (intBits_fmod_le ha hb) (by decide)) fun h => okB h (intBits_fdiv_le ha) (by decide)
theorem nb {t : Int} : (Builtin.bitNot t).natAbs ≤ t.natAbs + 1 := by unfold Builtin.bitNot; (first | with_reducible exact om213 | omega)
theorem sb {s t : Int} {A B : Nat} (h : s.natAbs ≤ A) (k : t.natAbs ≤ B) : (s - t).natAbs ≤ A + B := by (first | with_reducible exact om211 h k | omega)
theorem ltB {v : Int} {B : Nat} (h : v.natAbs ≤ B) (hB : B < 2 ^ 200) : Builtin.Int.intBits v ≤ 200 := intBits_le_iff.mpr (Nat.lt_of_le_of_lt h hB)
theorem bits_bits {x : Str} {a b mx v1 : Int} (h : bitsE x a b mx = .ok v1) (ha : Builtin.Int.intBits a ≤ 70) (hb : Builtin.Int.intBits b ≤ 70) (hm : mx < 100) : Builtin.Int.intBits v1 ≤ 200 := by
  have a1 := Nat.le_of_lt (intBits_le_iff.mp ha)
  have b1 := Nat.le_of_lt (intBits_le_iff.mp hb)
  have c1 := and_bound a1 b1
  have d1 := and_bound (m := 71) (Nat.le_trans nb (Nat.le_trans (Nat.add_le_add_right a1 1) (by decide))) (Nat.le_trans nb (Nat.le_trans (Nat.add_le_add_right b1 1) (by decide)))
  have e1 : (Builtin.bitOr a b).natAbs ≤ 2 ^ (71 + 1) + 1 := Nat.le_trans nb (Nat.add_le_add_right d1 1)
  unfold bitsE at h
  refine iteE h (fun h => ?_) fun h => ?_
  · unfold shrE at h
    exact iteE h (fun h => bits_shl h ha hm) fun h => bits_shr (Except.ok.inj h) ha
  refine iteE h (fun h => bits_shl h ha hm) fun h => ?_
  refine iteE h (fun h => okB h (ltB c1 (by decide)) (by decide)) fun h => ?_
  refine iteE h (fun h => okB h (ltB e1 (by decide)) (by decide)) fun h => ?_
  exact okB h (show Builtin.Int.intBits (Builtin.bitXor a b) ≤ 200 from ltB (sb e1 c1) (by decide)) (by decide)
theorem bits_bin {x : Str} {a b mx v1 : Int} (h : binE x a b mx = .ok v1) (ha : Builtin.Int.intBits a ≤ 70) (hb : Builtin.Int.intBits b ≤ 70) (hm : mx < 100) : Builtin.Int.intBits v1 ≤ 200 := by
  have hg : Builtin.Int.intBits (Int.gcd a b : Int) ≤ 200 := by
    have a1 := intBits_le_iff.mp ha
    have b1 := intBits_le_iff.mp hb
    rw [p70] at a1 b1
    refine bits_200 ?_
    rw [p72]
    by_cases h0 : a.natAbs = 0
    · have : Int.gcd a b = b.natAbs := by unfold Int.gcd; rw [h0, Nat.gcd_zero_left]
      (first | with_reducible exact om204 b1 this | with_reducible exact om205 a1 this | omega)
    · have := Nat.gcd_le_left b.natAbs (Nat.pos_of_ne_zero h0)
      unfold Int.gcd
      (first | with_reducible exact om204 b1 this | with_reducible exact om205 a1 this | omega)
  unfold binE at h
  refine iteE h (fun h => okB h (intBits_add_le ha hb) (by decide)) fun h => ?_
  refine iteE h (fun h => okB h (intBits_add_le ha hb) (by decide)) fun h => ?_
  refine iteE h (fun h => okB h (intBits_sub_le ha hb) (by decide)) fun h => ?_
  refine iteE h (fun h => okB h (intBits_mul_le ha hb) (by decide)) fun h => ?_
  refine iteE h (fun h => bits_div h ha hb) fun h => ?_
  refine iteE h (fun h => bits_pow h hm) fun h => ?_
  refine iteE h (fun h => bits_pow h hm) fun h => ?_
  refine iteE h (fun h => okB h (iteB hb ha) (by decide)) fun h => ?_
  refine iteE h (fun h => okB h (iteB hb ha) (by decide)) fun h => ?_
  exact iteE h (fun h => okB h hg (by decide)) fun h => bits_bits h ha hb hm
end Mine
namespace Mine
open PySem PySem.Calls PyProof.Rows PySem.Spec
def bin_R_T (S R : Led) (x : Str) (a1 b1 mx : Int) (K7 : Value → Led → Prop) : Prop := ∀ J, ∀ v', ∀ u, TupL J → binE x a1 b1 mx = .ok v' → K7 (.int v' u) (S ++ (J ++ R))
def bin_R (S R : Led) (x : Str) (a1 b1 mx : Int) (r : Value) (led' : Led) : Prop := ∀ K7 : Value → Led → Prop, bin_R_T S R x a1 b1 mx K7 → K7 r led'
theorem bin_R_mk {S R : Led} {x : Str} {a1 b1 mx : Int} {r : Value} {led' : Led} : ∀ J, TupL J → led' = S ++ (J ++ R) → ∀ v', ∀ u, r = .int v' u → binE x a1 b1 mx = .ok v' → bin_R S R x a1 b1 mx r led' := by
  intro _ a0 a1 _ _ a2 a3
  subst a1
  subst a2
  exact fun K7 k7 => k7 _ _ _ a0 a3
theorem bin_R_pt {S R : Led} {x : Str} {a1 b1 mx : Int} (K7 : Value → Led → Prop) (k7 : bin_R_T S R x a1 b1 mx K7) (r : Value) (led' : Led) (h7 : bin_R S R x a1 b1 mx r led') : K7 r led' := h7 K7 k7
theorem bin_tells {w : World} {sy : Addr} {σ : Sy} {S R : Led} {n : Nat} {x : Str} {a1 b1 mx : Int} {t t' t2 t3 : Tok} (hS : SymAt w sy σ S) (hd0 : σ.Dot) (hz : σ.Small n) (hn : n < 50000) (ha : Builtin.Int.intBits a1 ≤ 70) (hb : Builtin.Int.intBits b1 ≤ 70) (hmx : mx < 100) :
    Tells w 532 [.ref sy, .str x t, .int a1 t', .int b1 t2, .int mx t3] 11 (S ++ R) (bin_R S R x a1 b1 mx) (fun dx led' => ∃ er, binE x a1 b1 mx = .error er ∧ ErrAt w sy σ n er R dx led') := by
  refine hidE ?_; simp (disch := k_dflt (
    refine hidW ?_
    intro dp un gd cn cs L a ccd cl outer A₀ base h₀ p loose mean mg mb m s Q E B F X N T hk dm hd hu hret hthr
    rename Option (List Code) => gd34Z
    k_with "mine call" => guard_hyp gd34Z; first
      | k_dflt (refine' go0n (e := gcd_R_pt) (gcd_tells) ?B225 ?F225 ?X225 ?N225 ?T225 ?hk225 ?d225 ?hd225 ?hu225 ?_; (case B225 => k_asm); (case F225 => k_asm); (case X225 => k_asm); (case N225 => k_asm); (case T225 => k_asm); (case hk225 => first | exact rfl | assumption); (case d225 => walk_at "dmx"); (case hd225 => walk_at "hdx"); (case hu225 => walk_at "hux"); intro J9 u9 hJ9 h9 tk9 F9 N9 D9; (try k_sweep); (try dsimp only))
      | k_dflt (refine' go1 (e := div_R_pt) (div_tells (by assumption) (by assumption) (by assumption) (by assumption) (by assumption) (by assumption)) ?B226 ?F226 ?X226 ?N226 ?T226 ?hk226 ?d226 ?r226 ?hd226 ?hu226 ?_ ?_; (case B226 => k_asm); (case F226 => k_asm); (case X226 => k_asm); (case N226 => k_asm); (case T226 => k_asm); (case hk226 => first | exact rfl | assumption); (case d226 => walk_at "dmx"); (case r226 => walk_at "rot"); (case hd226 => walk_at "hdx"); (case hu226 => walk_at "hux"); rotate_left; intro e9 dx9 led9 h9 tk9 g9 F9 U9 R9 D9 hE9; (try dsimp only); rotate_left; intro v9 u9 q9 h9 tk9 F9 N9 D9; (try k_sweep); (try dsimp only))
      | k_dflt (refine' go1 (e := power_R_pt) (power_tells (by assumption) (by assumption) (by assumption) (by assumption) (by assumption) (by assumption) (by assumption)) ?B227 ?F227 ?X227 ?N227 ?T227 ?hk227 ?d227 ?r227 ?hd227 ?hu227 ?_ ?_; (case B227 => k_asm); (case F227 => k_asm); (case X227 => k_asm); (case N227 => k_asm); (case T227 => k_asm); (case hk227 => first | exact rfl | assumption); (case d227 => walk_at "dmx"); (case r227 => walk_at "rot"); (case hd227 => walk_at "hdx"); (case hu227 => walk_at "hux"); rotate_left; intro e9 dx9 led9 h9 tk9 g9 F9 U9 R9 D9 hE9; (try dsimp only); rotate_left; intro v9 u9 q9 h9 tk9 F9 N9 D9; (try k_sweep); (try dsimp only))
      | k_dflt (refine' go1 (e := bits_R_pt) (bits_tells (by assumption) (by assumption) (by assumption) (by assumption) (by assumption)) ?B228 ?F228 ?X228 ?N228 ?T228 ?hk228 ?d228 ?r228 ?hd228 ?hu228 ?_ ?_; (case B228 => k_asm); (case F228 => k_asm); (case X228 => k_asm); (case N228 => k_asm); (case T228 => k_asm); (case hk228 => first | exact rfl | assumption); (case d228 => walk_at "dmx"); (case r228 => walk_at "rot"); (case hd228 => walk_at "hdx"); (case hu228 => walk_at "hux"); rotate_left; intro e9 dx9 led9 h9 tk9 g9 F9 U9 R9 D9 hE9; (try dsimp only); rotate_left; intro v9 u9 q9 h9 tk9 F9 N9 D9; (try k_sweep); (try dsimp only))
    refine sym_inst hS ?_; intro _ _ _ _ _ _ _ _ _ _ _ _ _ hi1 hi2
    (revert X; k_fill; intro X; refine wpAny_call ?_; k_dflt ktr_enter; walk_at "loc"; refine genT ?_; intro tk9)
    walk_at "st9"
    all_goals first
      | (refine' outR (P := S) (R := R) hret ?F230 ?N230 ?D230 ?r230 ?rrrr230 ?P; (case F230 => k_asm); (case N230 => k_asm); (case D230 => walk_at "dm"); (case r230 => walk_at "rot"); (case rrrr230 => walk_at "rot"); (case P => exact bin_R_mk _ (by first | exact tupL_nil | exact tupL_cons rfl tupL_nil | exact tupL_app hJ9 (tupL_cons rfl tupL_nil)) rfl _ _ rfl (by unfold binE; first | ((repeat first | refine (if_neg (by assumption)).trans ?_ | refine (if_neg (ne_true_of_eq_false (by assumption))).trans ?_); first | rfl | assumption | exact (if_pos (by assumption)).trans rfl | exact (if_pos (by assumption)).trans (by assumption) | exact congrArg Except.ok (if_neg (by assumption)) | exact (if_pos (by assumption)).trans (congrArg Except.ok (if_neg (by assumption))) | exact (if_pos (by assumption)).trans (congrArg Except.ok (if_pos (by assumption))); done) | (simp only [*, if_true, Bool.false_eq_true, if_false]; done) | (simp [*]; done))))
      | ((refine Gen fun gG9 gK9 => ?_; obtain ⟨er9, q9, hA9⟩ := hE9; refine gK9 ?_; clear gK9 gG9); (refine Gen fun gG9 gK9 => ?_; obtain ⟨led8, hB9, hC9⟩ := hA9.drop (R := R) (by walk_at "rot"); refine gK9 ?_; clear gK9 gG9); exact hthr _ _ _ _ _ _ (by assumption) (by assumption) (Rz.sub (by assumption) hC9.1) (hC9.2 (by assumption)) ⟨er9, by unfold binE; first | ((repeat first | refine (if_neg (by assumption)).trans ?_ | refine (if_neg (ne_true_of_eq_false (by assumption))).trans ?_); first | rfl | assumption | exact (if_pos (by assumption)).trans rfl | exact (if_pos (by assumption)).trans (by assumption) | exact congrArg Except.ok (if_neg (by assumption)) | exact (if_pos (by assumption)).trans (congrArg Except.ok (if_neg (by assumption))) | exact (if_pos (by assumption)).trans (congrArg Except.ok (if_pos (by assumption))); done) | (simp only [*, if_true, Bool.false_eq_true, if_false]; done) | (simp [*]; done), hB9⟩))) only [↓hidL]
theorem pop_led {prog : Program} {w : World} {A : Around} {E : Value → Shared → Prop} {s : Shared} {h₀ : Heap} {L D : Addr} {m : Str → Option Value} {news news' : Led} {n : Nat} {p : List Value} {y : Value} {Q : Value → Shared → Prop} (F : Fr h₀ L s.heap m) (N : News h₀ L s.heap news) (U : Upd D (listOf (p ++ [y]).toArray n) (listOf p.toArray (n + 1)) news news')
    (hz : p.length < 1000000) (h : ∀ h', Fr h₀ L h' m → News h₀ L h' news' → Q y { s with heap := h' }) : wpAny (model prog w) A (call (.builtin "list.pop") [.ref D]) Q E s :=
  kl_pop F N (by simpa using kpa_last y p) U (by simp only [List.length_append, List.length_cons, List.length_nil]; rw [sizeLine_eq]; (first | with_reducible exact om50 hz | omega)) h
end Mine
theorem Mine.wd74 : True := by
  (k_with "W call builtin:list.pop" => (k_here; (with_reducible show wpAny _ _ (call (Value.builtin _) [Value.ref _]) _ _ _); k_dflt (refine' Mine.pop_led ?FW74 ?NW74 ?UW74 ?zW74 ?_; (case FW74 => k_asm); (case NW74 => k_asm); (case UW74 => k_upd); (case zW74 => first | assumption | walk_at "ar" | (simp only [List.length_append, List.length_cons, List.length_nil]; walk_at "ar")); k_whole); intro hZ9 FZ9 NZ9; (try k_sweep)))
  trivial
namespace Mine
open PySem PySem.Calls PyProof.Rows PySem.Spec
def apu_R_T (vl : Addr) (S R : Led) (x : Str) (mx : Int) (v : Int) (vs : List Value) (K7 : Value → Led → Prop) : Prop := ∀ (r : Value), ∀ k', ∀ v1, ∀ v2, ∀ u, unE x v = .ok v1 → sizeE v1 mx = .ok v2 → K7 (r) (S ++ ([(vl, listOf (vs ++ [Value.int v2 u]).toArray k')] ++ R))
def apu_R (vl : Addr) (S R : Led) (x : Str) (mx : Int) (v : Int) (vs : List Value) (r : Value) (led' : Led) : Prop := ∀ K7 : Value → Led → Prop, apu_R_T vl S R x mx v vs K7 → K7 r led'
theorem apu_R_mk {vl : Addr} {S R : Led} {x : Str} {mx : Int} {v : Int} {vs : List Value} {r : Value} {led' : Led} : ∀ k', ∀ v1, ∀ v2, ∀ u, unE x v = .ok v1 → sizeE v1 mx = .ok v2 → led' = S ++ ([(vl, listOf (vs ++ [Value.int v2 u]).toArray k')] ++ R) → apu_R vl S R x mx v vs r led' := by
  intro _ _ _ _ a0 a1 a2
  subst a2
  exact fun K7 k7 => k7 _ _ _ _ _ a0 a1
theorem apu_R_pt {vl : Addr} {S R : Led} {x : Str} {mx : Int} {v : Int} {vs : List Value} (K7 : Value → Led → Prop) (k7 : apu_R_T vl S R x mx v vs K7) (r : Value) (led' : Led) (h7 : apu_R vl S R x mx v vs r led') : K7 r led' := h7 K7 k7
theorem apu_tells {w : World} {sy vl : Addr} {σ : Sy} {S R : Led} {n k : Nat} {x : Str} {f mx : Int} {fa : Int} {v : Int} {vs : List Value} {t t2 t3 : Tok} (hS : SymAt w sy σ S) (hd0 : σ.Dot) (hz : σ.Small n) (hn : n < 50000) (hmx : mx < 100)
    (h0 : 0 ≤ f) (hz1 : f < 100000) (hf : σ.funs[f.toNat]? = some (fa, 1)) (h1 : 0 ≤ fa) (h2 : fa < 100000) (hx : σ.texts[fa.toNat]? = some x) (hl : vs.length < 1000) (hv : Builtin.Int.intBits v ≤ 70) :
    Tells w 539 [.ref sy, .int f t, .ref vl, .int mx t2] 12 (S ++ ([(vl, listOf (vs ++ [Value.int v t3]).toArray k)] ++ R)) (apu_R vl S R x mx v vs) (fun dx led' => ∃ er, (unE x v >>= (sizeE · mx)) = .error er ∧ ErrAt w sy σ n er R dx led') := by
  refine hidE ?_; simp (disch := k_dflt (
    refine hidW ?_
    intro dp un gd cn cs L a ccd cl outer A₀ base h₀ p loose mean mg mb m s Q E B F X N T hk dm hd hu hret hthr
    dsimp only [List.cons_append, List.nil_append] at N dm
    rename Option (List Code) => gd35Z
    k_with "mine call" => guard_hyp gd35Z; first
      | k_dflt (refine' go1n (e := name_R_pt) (name_tells (by assumption) (by assumption) (by assumption) (by assumption)) ?B234 ?F234 ?X234 ?N234 ?T234 ?hk234 ?d234 ?r234 ?hd234 ?hu234 ?_; (case B234 => k_asm); (case F234 => k_asm); (case X234 => k_asm); (case N234 => k_asm); (case T234 => k_asm); (case hk234 => first | exact rfl | assumption); (case d234 => walk_at "dmx"); (case r234 => walk_at "rot"); (case hd234 => walk_at "hdx"); (case hu234 => walk_at "hux"); intro u9 h9 tk9 F9 N9 D9; (try k_sweep); (try dsimp only))
      | k_dflt (refine' go1n (e := arity_R_pt) (arity_tells (by assumption) (by assumption) (by assumption) (by assumption)) ?B235 ?F235 ?X235 ?N235 ?T235 ?hk235 ?d235 ?r235 ?hd235 ?hu235 ?_; (case B235 => k_asm); (case F235 => k_asm); (case X235 => k_asm); (case N235 => k_asm); (case T235 => k_asm); (case hk235 => first | exact rfl | assumption); (case d235 => walk_at "dmx"); (case r235 => walk_at "rot"); (case hd235 => walk_at "hdx"); (case hu235 => walk_at "hux"); intro u9 h9 tk9 F9 N9 D9; (try k_sweep); (try dsimp only))
      | k_dflt (refine' go1n (e := text_R_pt) (text_tells (by assumption) (by assumption) (by assumption) (by assumption)) ?B236 ?F236 ?X236 ?N236 ?T236 ?hk236 ?d236 ?r236 ?hd236 ?hu236 ?_; (case B236 => k_asm); (case F236 => k_asm); (case X236 => k_asm); (case N236 => k_asm); (case T236 => k_asm); (case hk236 => first | exact rfl | assumption); (case d236 => walk_at "dmx"); (case r236 => walk_at "rot"); (case hd236 => walk_at "hdx"); (case hu236 => walk_at "hux"); intro u9 h9 tk9 F9 N9 D9; (try k_sweep); (try dsimp only))
      | k_dflt (refine' go1 (e := un_R_pt) (un_tells (by assumption) (by assumption) (by assumption) (by assumption) (by assumption)) ?B237 ?F237 ?X237 ?N237 ?T237 ?hk237 ?d237 ?r237 ?hd237 ?hu237 ?_ ?_; (case B237 => k_asm); (case F237 => k_asm); (case X237 => k_asm); (case N237 => k_asm); (case T237 => k_asm); (case hk237 => first | exact rfl | assumption); (case d237 => walk_at "dmx"); (case r237 => walk_at "rot"); (case hd237 => walk_at "hdx"); (case hu237 => walk_at "hux"); rotate_left; intro e9 dx9 led9 h9 tk9 g9 F9 U9 R9 D9 hE9; (try dsimp only); rotate_left; intro v9 u9 q9 h9 tk9 F9 N9 D9; (try k_sweep); (try dsimp only))
      | k_dflt (refine' go1 (e := size2_R_pt) (size2_tells (by assumption) (by assumption) (by assumption) (by assumption) (bits_un q9 hv) (by assumption)) ?B238 ?F238 ?X238 ?N238 ?T238 ?hk238 ?d238 ?r238 ?hd238 ?hu238 ?_ ?_; (case B238 => k_asm); (case F238 => k_asm); (case X238 => k_asm); (case N238 => k_asm); (case T238 => k_asm); (case hk238 => first | exact rfl | assumption); (case d238 => walk_at "dmx"); (case r238 => walk_at "rot"); (case hd238 => walk_at "hdx"); (case hu238 => walk_at "hux"); rotate_left; intro e9 dx9 led9 h9 tk9 g9 F9 U9 R9 D9 hE9; (try dsimp only); rotate_left; intro v9 u9 q9 h9 tk9 F9 N9 D9; (try k_sweep); (try dsimp only))
    refine sym_inst hS ?_; intro _ _ _ _ _ _ _ _ _ _ _ _ _ hi1 hi2
    (revert X; k_fill; intro X; refine wpAny_call ?_; k_dflt ktr_enter; walk_at "loc"; refine genT ?_; intro tk9)
    walk_at "st9"
    all_goals first
      | (refine' out2 (P := S) (P2 := [(vl, _)]) (R := R) hret ?F240 ?N240 ?D240 ?r240 ?rr240 ?P; (case F240 => k_asm); (case N240 => k_asm); (case D240 => walk_at "dmx"); (case r240 => walk_at "rot"); (case rr240 => walk_at "rot"); (case P => exact apu_R_mk _ _ _ _ (by assumption) (by assumption) rfl))
      | ((refine Gen fun gG9 gK9 => ?_; obtain ⟨er9, q9, hA9⟩ := hE9; refine gK9 ?_; clear gK9 gG9); (refine Gen fun gG9 gK9 => ?_; obtain ⟨led8, hB9, hC9⟩ := hA9.drop (R := R) (by walk_at "rot"); refine gK9 ?_; clear gK9 gG9); exact hthr _ _ _ _ _ _ (by assumption) (by assumption) (Rz.sub (by assumption) hC9.1) (hC9.2 (by assumption)) ⟨er9, by simp only [*, bind, Except.bind], hB9⟩))) only [↓hidL]
def apb_R_T (vl : Addr) (S R : Led) (x : Str) (mx : Int) (v v' : Int) (vs : List Value) (K7 : Value → Led → Prop) : Prop := ∀ (r : Value), ∀ k', ∀ v1, ∀ v2, ∀ u, ∀ Jn, TupL Jn → binE x v v' mx = .ok v1 → sizeE v1 mx = .ok v2 → K7 (r) (S ++ ([(vl, listOf (vs ++ [Value.int v2 u]).toArray k')] ++ (Jn ++ R)))
def apb_R (vl : Addr) (S R : Led) (x : Str) (mx : Int) (v v' : Int) (vs : List Value) (r : Value) (led' : Led) : Prop := ∀ K7 : Value → Led → Prop, apb_R_T vl S R x mx v v' vs K7 → K7 r led'
theorem apb_R_mk {vl : Addr} {S R : Led} {x : Str} {mx : Int} {v v' : Int} {vs : List Value} {r : Value} {led' : Led} : ∀ k', ∀ v1, ∀ v2, ∀ u, ∀ Jn, TupL Jn → binE x v v' mx = .ok v1 → sizeE v1 mx = .ok v2 → led' = S ++ ([(vl, listOf (vs ++ [Value.int v2 u]).toArray k')] ++ (Jn ++ R)) → apb_R vl S R x mx v v' vs r led' := by
  intro _ _ _ _ _ a0 a1 a2 a3
  subst a3
  exact fun K7 k7 => k7 _ _ _ _ _ _ a0 a1 a2
theorem apb_R_pt {vl : Addr} {S R : Led} {x : Str} {mx : Int} {v v' : Int} {vs : List Value} (K7 : Value → Led → Prop) (k7 : apb_R_T vl S R x mx v v' vs K7) (r : Value) (led' : Led) (h7 : apb_R vl S R x mx v v' vs r led') : K7 r led' := h7 K7 k7
theorem apb_tells {w : World} {sy vl : Addr} {σ : Sy} {S R : Led} {n k : Nat} {x : Str} {f mx : Int} {fa : Int} {v v' : Int} {vs : List Value} {t t2 t3 t4 : Tok} (hS : SymAt w sy σ S) (hd0 : σ.Dot) (hz : σ.Small n) (hn : n < 50000) (hmx : mx < 100)
    (h0 : 0 ≤ f) (hz1 : f < 100000) (hf : σ.funs[f.toNat]? = some (fa, 2)) (h1 : 0 ≤ fa) (h2 : fa < 100000) (hx : σ.texts[fa.toNat]? = some x) (hl : vs.length < 1000) (hv : Builtin.Int.intBits v ≤ 70) (hv1 : Builtin.Int.intBits v' ≤ 70) :
    Tells w 539 [.ref sy, .int f t, .ref vl, .int mx t2] 12 (S ++ ([(vl, listOf ((vs ++ [Value.int v t3]) ++ [Value.int v' t4]).toArray k)] ++ R)) (apb_R vl S R x mx v v' vs) (fun dx led' => ∃ er, (binE x v v' mx >>= (sizeE · mx)) = .error er ∧ ErrAt w sy σ n er R dx led') := by
  refine hidE ?_; simp (disch := k_dflt (
    refine hidW ?_
    intro dp un gd cn cs L a ccd cl outer A₀ base h₀ p loose mean mg mb m s Q E B F X N T hk dm hd hu hret hthr
    dsimp only [List.cons_append, List.nil_append] at N dm
    rename Option (List Code) => gd36Z; (k_with "ar2" => guard_hyp gd36Z; first | with_reducible exact om32 hl)
    k_with "mine call" => guard_hyp gd36Z; first
      | k_dflt (refine' go1n (e := name_R_pt) (name_tells (by assumption) (by assumption) (by assumption) (by assumption)) ?B242 ?F242 ?X242 ?N242 ?T242 ?hk242 ?d242 ?r242 ?hd242 ?hu242 ?_; (case B242 => k_asm); (case F242 => k_asm); (case X242 => k_asm); (case N242 => k_asm); (case T242 => k_asm); (case hk242 => first | exact rfl | assumption); (case d242 => walk_at "dmx"); (case r242 => walk_at "rot"); (case hd242 => walk_at "hdx"); (case hu242 => walk_at "hux"); intro u9 h9 tk9 F9 N9 D9; (try k_sweep); (try dsimp only))
      | k_dflt (refine' go1n (e := arity_R_pt) (arity_tells (by assumption) (by assumption) (by assumption) (by assumption)) ?B243 ?F243 ?X243 ?N243 ?T243 ?hk243 ?d243 ?r243 ?hd243 ?hu243 ?_; (case B243 => k_asm); (case F243 => k_asm); (case X243 => k_asm); (case N243 => k_asm); (case T243 => k_asm); (case hk243 => first | exact rfl | assumption); (case d243 => walk_at "dmx"); (case r243 => walk_at "rot"); (case hd243 => walk_at "hdx"); (case hu243 => walk_at "hux"); intro u9 h9 tk9 F9 N9 D9; (try k_sweep); (try dsimp only))
      | k_dflt (refine' go1n (e := text_R_pt) (text_tells (by assumption) (by assumption) (by assumption) (by assumption)) ?B244 ?F244 ?X244 ?N244 ?T244 ?hk244 ?d244 ?r244 ?hd244 ?hu244 ?_; (case B244 => k_asm); (case F244 => k_asm); (case X244 => k_asm); (case N244 => k_asm); (case T244 => k_asm); (case hk244 => first | exact rfl | assumption); (case d244 => walk_at "dmx"); (case r244 => walk_at "rot"); (case hd244 => walk_at "hdx"); (case hu244 => walk_at "hux"); intro u9 h9 tk9 F9 N9 D9; (try k_sweep); (try dsimp only))
      | k_dflt (refine' go1 (e := bin_R_pt) (bin_tells (by assumption) (by assumption) (by assumption) (by assumption) (by assumption) (by assumption) (by assumption)) ?B245 ?F245 ?X245 ?N245 ?T245 ?hk245 ?d245 ?r245 ?hd245 ?hu245 ?_ ?_; (case B245 => k_asm); (case F245 => k_asm); (case X245 => k_asm); (case N245 => k_asm); (case T245 => k_asm); (case hk245 => first | exact rfl | assumption); (case d245 => walk_at "dmx"); (case r245 => walk_at "rot"); (case hd245 => walk_at "hdx"); (case hu245 => walk_at "hux"); rotate_left; intro e9 dx9 led9 h9 tk9 g9 F9 U9 R9 D9 hE9; (try dsimp only); rotate_left; intro J9 v9 u9 hJ9 q9 h9 tk9 F9 N9 D9; (try k_sweep); (try dsimp only))
      | k_dflt (refine' go1 (e := size2_R_pt) (size2_tells (by assumption) (by assumption) (by assumption) (by assumption) (bits_bin q9 hv hv1 hmx) (by assumption)) ?B246 ?F246 ?X246 ?N246 ?T246 ?hk246 ?d246 ?r246 ?hd246 ?hu246 ?_ ?_; (case B246 => k_asm); (case F246 => k_asm); (case X246 => k_asm); (case N246 => k_asm); (case T246 => k_asm); (case hk246 => first | exact rfl | assumption); (case d246 => walk_at "dmx"); (case r246 => walk_at "rot"); (case hd246 => walk_at "hdx"); (case hu246 => walk_at "hux"); rotate_left; intro e9 dx9 led9 h9 tk9 g9 F9 U9 R9 D9 hE9; (try dsimp only); rotate_left; intro v9 u9 q9 h9 tk9 F9 N9 D9; (try k_sweep); (try dsimp only))
    refine sym_inst hS ?_; intro _ _ _ _ _ _ _ _ _ _ _ _ _ hi1 hi2
    (revert X; k_fill; intro X; refine wpAny_call ?_; k_dflt ktr_enter; walk_at "loc"; refine genT ?_; intro tk9)
    walk_at "st9"
    all_goals first
      | (refine' out2 (P := S) (P2 := [(vl, _)]) (R := J9 ++ R) hret ?F248 ?N248 ?D248 ?r248 ?rr248 ?P; (case F248 => k_asm); (case N248 => k_asm); (case D248 => walk_at "dmx"); (case r248 => walk_at "rot"); (case rr248 => walk_at "rot"); (case P => exact apb_R_mk _ _ _ _ _ hJ9 (by assumption) (by assumption) rfl))
      | ((refine Gen fun gG9 gK9 => ?_; obtain ⟨er9, q9, hA9⟩ := hE9; refine gK9 ?_; clear gK9 gG9); (refine Gen fun gG9 gK9 => ?_; obtain ⟨led8, hB9, hC9⟩ := hA9.drop (R := R) (by walk_at "rot"); refine gK9 ?_; clear gK9 gG9); exact hthr _ _ _ _ _ _ (by assumption) (by assumption) (Rz.sub (by assumption) hC9.1) (hC9.2 (by assumption)) ⟨er9, by simp only [*, bind, Except.bind], hB9⟩))) only [↓hidL]
end Mine
namespace Mine
open PySem PySem.Calls PyProof.Rows PySem.Spec
/-- the value is a cell: a tuple of two ints -/
def CellIn (J : Led) (a : Addr) (c : Int × Int) : Prop := ∃ t t' k, (a, tupO [.int c.1 t, .int c.2 t'] k) ∈ J
theorem CellIn.mono {J J' : Led} {a : Addr} {c : Int × Int} (h : CellIn J a c) (i : ∀ p ∈ J, p ∈ J') : CellIn J' a c := by
  obtain ⟨t, t', k, m⟩ := h
  exact ⟨t, t', k, i _ m⟩
def CellsV (J : Led) (vs : List Value) (hp : List (Int × Int)) : Prop := vs.length = hp.length ∧ ∀ (i : Nat) (c : Int × Int), hp[i]? = some c → ∃ a, vs[i]? = some (.ref a) ∧ CellIn J a c
theorem CellsV.mono {J J' : Led} {vs : List Value} {hp : List (Int × Int)} (h : CellsV J vs hp) (i : ∀ p ∈ J, p ∈ J') : CellsV J' vs hp :=
  ⟨h.1, fun j c hc => by obtain ⟨a, h1, h2⟩ := h.2 j c hc; exact ⟨a, h1, h2.mono i⟩⟩
theorem CellsV.push {J : Led} {vs : List Value} {hp : List (Int × Int)} {a : Addr} {c : Int × Int} (h : CellsV J vs hp) (hc : CellIn J a c) : CellsV J (vs ++ [.ref a]) (hp ++ [c]) := by
  refine ⟨by simp [h.1], fun j d hd => ?_⟩
  rcases Nat.lt_or_ge j hp.length with hj | hj
  · rw [List.getElem?_append_left hj] at hd
    obtain ⟨b, h1, h2⟩ := h.2 j d hd
    exact ⟨b, by rw [List.getElem?_append_left (by rw [h.1]; exact hj)]; exact h1, h2⟩
  · rw [List.getElem?_append_right hj] at hd
    have : j - hp.length = 0 := by
      rcases Nat.eq_zero_or_pos (j - hp.length) with h0 | h0
      · exact h0
      · rw [List.getElem?_eq_none (by simp; (first | with_reducible exact om37 h0 | omega))] at hd; cases hd
    rw [this] at hd
    simp only [List.getElem?_cons_zero, Option.some.injEq] at hd
    subst hd
    exact ⟨a, by rw [List.getElem?_append_right (by rw [h.1]; exact hj), h.1, this]; rfl, hc⟩
theorem CellsV.set {J : Led} {vs : List Value} {hp : List (Int × Int)} {a : Addr} {c : Int × Int} {i : Nat} (h : CellsV J vs hp) (hc : CellIn J a c) : CellsV J (vs.set i (.ref a)) (hp.set i c) := by
  refine ⟨by simp [h.1], fun j d hd => ?_⟩
  rw [List.getElem?_set] at hd ⊢
  rw [h.1]
  by_cases hij : i = j
  · rw [if_pos hij] at hd ⊢
    split at hd
    · cases hd
      rw [if_pos (by assumption)]
      exact ⟨a, rfl, hc⟩
    · cases hd
  · rw [if_neg hij] at hd ⊢
    exact h.2 j d hd
/-- the store, but for its cells, which are tuples of J -/
inductive StoreAt (st sy : Addr) (hp : List (Int × Int)) (J H : Led) : Prop
  | mk : ∀ (dst : Addr), ∀ (hl : Addr), ∀ (stk : Addr), ∀ (trl : Addr), ∀ (h1 : Int), ∀ (h2 : Int), ∀ (h3 : Int), ∀ (h4 : Int), ∀ (h5 : Int), ∀ (h6 : Int), ∀ (h7 : Int), ∀ (k1 : Tok), ∀ (k2 : Tok), ∀ (k3 : Tok), ∀ (k4 : Tok), ∀ (k5 : Tok), ∀ (k6 : Tok), ∀ (k7 : Tok), ∀ (u1 : Tok), ∀ (u2 : Tok), ∀ (u3 : Tok), ∀ (vs : List Value), ∀ (n : Nat), H = [(hl, listOf vs.toArray n), (st, instObj 423 dst), (dst, dictOf [⟨h1, .str "symbols" k1, .ref sy⟩, ⟨h2, .str "max_heap" k2, .int 100000 u1⟩, ⟨h3, .str "heap" k3, .ref hl⟩, ⟨h4, .str "stack" k4, .ref stk⟩, ⟨h5, .str "trail" k5, .ref trl⟩, ⟨h6, .str "hb" k6, .int 0 u2⟩, ⟨h7, .str "bb" k7, .int 0 u3⟩] 7),       (stk, listOf #[] 0), (trl, listOf #[] 0)] → CellsV J vs hp → StoreAt st sy hp J H
theorem store_open {st sy : Addr} {hp : List (Int × Int)} {J H : Led} {G : Prop} (hH : StoreAt st sy hp J H) (k : ∀ (dst hl stk trl : Addr) (h1 h2 h3 h4 h5 h6 h7 : Int) (k1 k2 k3 k4 k5 k6 k7 u1 u2 u3 : Tok) (vs : List Value) (n : Nat), H = [(hl, listOf vs.toArray n), (st, instObj 423 dst), (dst, dictOf [⟨h1, .str "symbols" k1, .ref sy⟩, ⟨h2, .str "max_heap" k2, .int 100000 u1⟩, ⟨h3, .str "heap" k3, .ref hl⟩, ⟨h4, .str "stack" k4, .ref stk⟩, ⟨h5, .str "trail" k5, .ref trl⟩, ⟨h6, .str "hb" k6, .int 0 u2⟩, ⟨h7, .str "bb" k7, .int 0 u3⟩] 7), (stk, listOf #[] 0), (trl, listOf #[] 0)] → CellsV J vs hp → G) : G := by
  obtain ⟨dst, hl, stk, trl, h1, h2, h3, h4, h5, h6, h7, k1, k2, k3, k4, k5, k6, k7, u1, u2, u3, vs, n, e, hV⟩ := hH
  exact k dst hl stk trl h1 h2 h3 h4 h5 h6 h7 k1 k2 k3 k4 k5 k6 k7 u1 u2 u3 vs n e hV
theorem store_inst {st sy : Addr} {hp : List (Int × Int)} {J H : Led} {G : Prop} (hH : StoreAt st sy hp J H) (k : ∀ (dst hl stk trl : Addr) (h1 h2 h3 h4 h5 h6 h7 : Int) (k1 k2 k3 k4 k5 k6 k7 u1 u2 u3 : Tok) (vs : List Value) (n : Nat),
    (st, instObj 423 dst) ∈ H → (dst, dictOf [⟨h1, .str "symbols" k1, .ref sy⟩, ⟨h2, .str "max_heap" k2, .int 100000 u1⟩, ⟨h3, .str "heap" k3, .ref hl⟩, ⟨h4, .str "stack" k4, .ref stk⟩, ⟨h5, .str "trail" k5, .ref trl⟩, ⟨h6, .str "hb" k6, .int 0 u2⟩, ⟨h7, .str "bb" k7, .int 0 u3⟩] 7) ∈ H →
    (hl, listOf vs.toArray n) ∈ H → CellsV J vs hp → G) : G := by
  obtain ⟨dst, hl, stk, trl, h1, h2, h3, h4, h5, h6, h7, k1, k2, k3, k4, k5, k6, k7, u1, u2, u3, vs, n, rfl, hV⟩ := hH
  exact k dst hl stk trl h1 h2 h3 h4 h5 h6 h7 k1 k2 k3 k4 k5 k6 k7 u1 u2 u3 vs n (.tail _ (.head _)) (.tail _ (.tail _ (.head _))) (.head _) hV
theorem store_mk {st sy : Addr} {dst hl stk trl : Addr} {h1 h2 h3 h4 h5 h6 h7 : Int} {k1 k2 k3 k4 k5 k6 k7 u1 u2 u3 : Tok} {vs : List Value} {n : Nat} {hp : List (Int × Int)} {J : Led} (hV : CellsV J vs hp) : StoreAt st sy hp J [(hl, listOf vs.toArray n), (st, instObj 423 dst), (dst, dictOf [⟨h1, .str "symbols" k1, .ref sy⟩, ⟨h2, .str "max_heap" k2, .int 100000 u1⟩, ⟨h3, .str "heap" k3, .ref hl⟩, ⟨h4, .str "stack" k4, .ref stk⟩, ⟨h5, .str "trail" k5, .ref trl⟩, ⟨h6, .str "hb" k6, .int 0 u2⟩, ⟨h7, .str "bb" k7, .int 0 u3⟩] 7), (stk, listOf #[] 0), (trl, listOf #[] 0)] :=
  ⟨dst, hl, stk, trl, h1, h2, h3, h4, h5, h6, h7, k1, k2, k3, k4, k5, k6, k7, u1, u2, u3, vs, n, rfl, hV⟩
/-- what a chain of cells comes to -/
inductive Der (hp : List (Int × Int)) : Nat → Int × Int → Int × Int → Prop
  | val {c : Int × Int} : c.1 ≠ 0 → c.1 ≠ 1 → Der hp 0 c c
  | self {i : Int} : 0 ≤ i → hp[i.toNat]? = some (0, i) → Der hp 0 (0, i) (0, i)
  | step {i : Int} {d e : Int × Int} {n : Nat} : d ≠ (0, i) → Der hp n d e → 0 ≤ i → hp[i.toNat]? = some d → Der hp (n + 1) (0, i) e
theorem eq_cells {prog : Program} {w : World} {A : Around} {E : Value → Shared → Prop} {s : Shared} {h₀ : Heap} {L a b : Addr} {led : Led} {i j i' j' : Int} {t1 t2 t3 t4 : Tok} {k k' : Nat} {Q : Value → Shared → Prop} (N : News h₀ L s.heap led)
    (h1 : (a, tupO [.int i t1, .int j t2] k) ∈ led) (h2 : (b, tupO [.int i' t3, .int j' t4] k') ∈ led) (hu : A.units < cLine) (h : Q (.bool (decide ((i, j) = (i', j')))) s) : wpAny (model prog w) A (compareOp .Eq (.ref a) (.ref b)) Q E s := by
  have q1 : s.heap.IsTuple a #[.int i t1, .int j t2] := ⟨_, (N _ h1).1, rfl, k, rfl⟩
  have q2 : s.heap.IsTuple b #[.int i' t3, .int j' t4] := ⟨_, (N _ h2).1, rfl, k', rfl⟩
  refine PySem.SeqAt.eq_tupleAt (e := fun n => if n = 0 then i == i' else j == j') q1 q2 hu ?_ ?_
  · intro n n1 n2
    match n with
    | 0 => exact PySem.SeqAt.EqAt.int_int _ _ _ _
    | 1 => exact PySem.SeqAt.EqAt.int_int _ _ _ _
    | n + 2 => simp at n1; (first | with_reducible exact (om276 n1).elim | omega)
  · have e : ((List.range (min (#[Value.int i t1, Value.int j t2] : Array Value).size (#[Value.int i' t3, Value.int j' t4] : Array Value).size)).all (fun n => if n = 0 then i == i' else j == j') && (#[Value.int i t1, Value.int j t2] : Array Value).size == (#[Value.int i' t3, Value.int j' t4] : Array Value).size) = decide ((i, j) = (i', j')) := by
      simp [List.range, List.range.loop]
      by_cases h1 : i = i' <;> by_cases h2 : j = j' <;> simp [h1, h2]
    rw [e]; exact h
theorem eq_cellsY {prog : Program} {w : World} {A : Around} {E : Value → Shared → Prop} {s : Shared} {h₀ : Heap} {L a b : Addr} {led : Led} {i j i' j' : Int} {t1 t2 t3 t4 : Tok} {k k' : Nat} {Q : Value → Shared → Prop} (N : News h₀ L s.heap led)
    (h1 : (a, tupO [.int i t1, .int j t2] k) ∈ led) (h2 : (b, tupO [.int i' t3, .int j' t4] k') ∈ led) (hu : A.units < cLine) (he : (i, j) = (i', j')) (h : Q (.bool true) s) : wpAny (model prog w) A (compareOp .Eq (.ref a) (.ref b)) Q E s :=
  eq_cells N h1 h2 hu (by rw [decide_eq_true he]; exact h)
theorem eq_cellsN {prog : Program} {w : World} {A : Around} {E : Value → Shared → Prop} {s : Shared} {h₀ : Heap} {L a b : Addr} {led : Led} {i j i' j' : Int} {t1 t2 t3 t4 : Tok} {k k' : Nat} {Q : Value → Shared → Prop} (N : News h₀ L s.heap led)
    (h1 : (a, tupO [.int i t1, .int j t2] k) ∈ led) (h2 : (b, tupO [.int i' t3, .int j' t4] k') ∈ led) (hu : A.units < cLine) (he : (i, j) ≠ (i', j')) (h : Q (.bool false) s) : wpAny (model prog w) A (compareOp .Eq (.ref a) (.ref b)) Q E s :=
  eq_cells N h1 h2 hu (by rw [decide_eq_false he]; exact h)
end Mine
theorem Mine.wd75 : True := by
  (k_with "W TurnW ret" => (dsimp only [Mine.TurnW]))
  (k_with "W ite" => (k_here; first | (refine ite_pos (beq_iff_eq.mpr (by with_reducible assumption)) ?_) | (refine ite_neg (fun hq => absurd (beq_iff_eq.mp hq) (by with_reducible assumption)) ?_)))
  (k_with "W compareOp Eq ref ref" => (k_here; (with_reducible show wpAny _ _ (compareOp CmpOp.Eq (Value.ref _) (Value.ref _)) _ _ _); k_dflt (first
  | (refine' Mine.eq_cellsY ?NW77 ?aW77 ?bW77 ?uW77 ?eW77 ?_; (case NW77 => k_asm); (case aW77 => k_mem); (case bW77 => k_mem); (case uW77 => ktr_units); (case eW77 => with_reducible rfl); k_whole)
  | (refine' Mine.eq_cellsN ?NW77 ?aW77 ?bW77 ?uW77 ?eW77 ?_; (case NW77 => k_asm); (case aW77 => k_mem); (case bW77 => k_mem); (case uW77 => ktr_units); (case eW77 => with_reducible assumption); k_whole)
  | (refine' Mine.eq_cells ?NW77 ?aW77 ?bW77 ?uW77 ?_; (case NW77 => k_asm); (case aW77 => k_mem); (case bW77 => k_mem); (case uW77 => ktr_units); k_whole))))
  trivial
namespace Mine
open PySem PySem.Calls PyProof.Rows PySem.Spec
theorem tells_imp {w : World} {f : Addr} {args : List Value} {D : Nat} {led : Led} {Ret Ret' : Value → Led → Prop} {Err : Addr → Led → Prop} (h : Tells w f args D led Ret Err) (i : ∀ r l, Ret r l → Ret' r l) : Tells w f args D led Ret' Err :=
  fun dp un gd cn cs L a ccd cl outer A₀ base h₀ p loose mean mg mb m s Q E b1 b2 b3 b4 b5 b6 b7 b8 b9 k t => h dp un gd cn cs L a ccd cl outer A₀ base h₀ p loose mean mg mb m s Q E b1 b2 b3 b4 b5 b6 b7 b8 b9 (fun r l h' tk' F N d R => k r l h' tk' F N d (i r l R)) t
def iscomp_R_T (ct : Int × Int) (J H R : Led) (K7 : Value → Led → Prop) : Prop := K7 (.bool (ct.1 == 2 || ct.1 == 3)) (H ++ (J ++ R))
def iscomp_R (ct : Int × Int) (J H R : Led) (r : Value) (led' : Led) : Prop := ∀ K7 : Value → Led → Prop, iscomp_R_T ct J H R K7 → K7 r led'
theorem iscomp_R_mk {ct : Int × Int} {J H R : Led} {r : Value} {led' : Led} : led' = H ++ (J ++ R) → r = .bool (ct.1 == 2 || ct.1 == 3) → iscomp_R ct J H R r led' := by
  intro a0 a1
  subst a0
  subst a1
  exact fun K7 k7 => k7
theorem iscomp_R_pt {ct : Int × Int} {J H R : Led} (K7 : Value → Led → Prop) (k7 : iscomp_R_T ct J H R K7) (r : Value) (led' : Led) (h7 : iscomp_R ct J H R r led') : K7 r led' := h7 K7 k7
theorem iscomp_tells {w : World} {st sy c : Addr} {hp : List (Int × Int)} {ct : Int × Int} {J H R : Led} (hH : StoreAt st sy hp J H) (hc : CellIn J c ct) :
    Tells w 328 [.ref st, .ref c] 1 (H ++ (J ++ R)) (iscomp_R ct J H R) NoErr := by
  refine hidE ?_; simp (disch := k_dflt (
    refine hidW ?_
    intro dp un gd cn cs L a ccd cl outer A₀ base h₀ p loose mean mg mb m s Q E B F X N T hk dm hd hu hret hthr
    refine store_inst hH ?_; intro dst hl stk trl h1 h2 h3 h4 h5 h6 h7 k1 k2 k3 k4 k5 k6 k7 u1 u2 u3 vs n hI1 hI2 hI3 hV
    (refine Gen fun gG9 gK9 => ?_; obtain ⟨t1, t2, kc, hc⟩ := hc; refine gK9 ?_; clear gK9 gG9)
    rename Option (List Code) => gd37Z
    (revert X; k_fill; intro X; refine wpAny_call ?_; k_dflt ktr_enter; walk_at "loc"; refine genT ?_; intro tk9)
    walk_at "st9"
    all_goals (refine' hret _ _ _ _ ?F ?N ?D ?P; (case F => k_asm); (case N => k_asm); (case D => first | assumption | walk_at "dm"); (case P => exact iscomp_R_mk rfl (by simp [*]))))) only [↓hidL]
inductive base_R (ct : Int × Int) (J H R : Led) (r : Value) (led' : Led) : Prop
  | mk : led' = H ++ (J ++ R) → ∀ u, r = .int (if ct.1 = 3 then ct.2 else ct.2 + 1) u → base_R ct J H R r led'
def base_R_T (ct : Int × Int) (J H R : Led) (K7 : Value → Led → Prop) : Prop := ∀ u, K7 (.int (if ct.1 = 3 then ct.2 else ct.2 + 1) u) (H ++ (J ++ R))
theorem base_tells {w : World} {st sy c : Addr} {hp : List (Int × Int)} {ct : Int × Int} {J H R : Led} (hH : StoreAt st sy hp J H) (hc : CellIn J c ct) :
    Tells w 349 [.ref st, .ref c] 1 (H ++ (J ++ R)) (base_R ct J H R) NoErr := by
  refine hidE ?_; simp (disch := k_dflt (
    refine hidW ?_
    intro dp un gd cn cs L a ccd cl outer A₀ base h₀ p loose mean mg mb m s Q E B F X N T hk dm hd hu hret hthr
    refine store_inst hH ?_; intro dst hl stk trl h1 h2 h3 h4 h5 h6 h7 k1 k2 k3 k4 k5 k6 k7 u1 u2 u3 vs n hI1 hI2 hI3 hV
    (refine Gen fun gG9 gK9 => ?_; obtain ⟨t1, t2, kc, hc⟩ := hc; refine gK9 ?_; clear gK9 gG9)
    rename Option (List Code) => gd38Z
    (revert X; k_fill; intro X; refine wpAny_call ?_; k_dflt ktr_enter; walk_at "loc"; refine genT ?_; intro tk9)
    walk_at "st9"
    all_goals (refine' hret _ _ _ _ ?F ?N ?D ?P; (case F => k_asm); (case N => k_asm); (case D => first | assumption | walk_at "dm"); (case P => exact ⟨rfl, _, by simp [*]; rfl⟩)))) only [↓hidL]
inductive deref_R (ce : Int × Int) (J H R : Led) (r : Value) (led' : Led) : Prop
  | mk : led' = H ++ (J ++ R) → ∀ a, r = .ref a → CellIn J a ce → deref_R ce J H R r led'
def deref_R_T (ce : Int × Int) (J H R : Led) (K7 : Value → Led → Prop) : Prop := ∀ a, CellIn J a ce → K7 (.ref a) (H ++ (J ++ R))
theorem deref_R_pt {ce : Int × Int} {J H R : Led} (K7 : Value → Led → Prop) (k7 : deref_R_T ce J H R K7) (r : Value) (led' : Led) (h7 : deref_R ce J H R r led') : K7 r led' := by
  obtain ⟨a0, _, a1, a2⟩ := h7
  subst a0
  subst a1
  exact k7 _ a2
theorem deref_tells {w : World} {st sy c : Addr} {hp : List (Int × Int)} {ct ce : Int × Int} {q : Nat} {J H R : Led} (hH : StoreAt st sy hp J H) (hc : CellIn J c ct) (hz : hp.length < 100000) (hde : Der hp q ct ce) :
    Tells w 272 [.ref st, .ref c] 1 (H ++ (J ++ R)) (deref_R ce J H R) NoErr := by
  refine hidE ?_; simp (disch := k_dflt (
    refine hidW ?_
    intro dp un gd cn cs L a ccd cl outer A₀ base h₀ p loose mean mg mb m s Q E B F X N T hk dm hd hu hret hthr
    refine store_inst hH ?_; intro dst hl stk trl h1 h2 h3 h4 h5 h6 h7 k1 k2 k3 k4 k5 k6 k7 u1 u2 u3 vs n hI1 hI2 hI3 hV
    rename Option (List Code) => gd39Z; (k_with "ar2" => guard_hyp gd39Z; first | with_reducible exact om275 hz hi9)
    k_with "exec While Constant cons nil" => guard_hyp gd39Z; (k_dflt (refine' while_led (J := fun n9 m led => led = H ++ (J ++ R) ∧ m (Str.ofString "self") = some (.ref st) ∧ ∃ c9 ct9, m (Str.ofString "cell") = some (.ref c9) ∧ CellIn J c9 ct9 ∧ Der hp n9 ct9 ce) ?F7 ?N7 ?D7 ?J7 ?_; (case F7 => k_asm); (case N7 => k_asm); (case D7 => assumption); (case J7 => exact ⟨rfl, by first | rfl | assumption, _, _, by first | rfl | assumption, hc, hde⟩)); intro n m₁ led₁ h tk hJ F1 N1 D1; (refine Gen fun gG9 gK9 => ?_; obtain ⟨rfl, hm1, c9, ct9, hm2, hc9, hde9⟩ := hJ; refine gK9 ?_; clear gK9 gG9); (try k_sweep); (refine Gen fun gG9 gK9 => ?_; obtain ⟨t9, t8, k8, hc9⟩ := hc9; refine gK9 ?_; clear gK9 gG9); cases hde9 <;> (try (rename hp[_]? = some _ => hx8; (try dsimp only at hc9); have hi9 := (List.getElem?_eq_some_iff.mp hx8).1; (refine Gen fun gG9 gK9 => ?_; obtain ⟨d9, hv9, t7, t6, k7, hd9⟩ := hV.2 _ _ hx8; refine gK9 ?_; clear gK9 gG9); (try dsimp only at hd9))))
    (revert X; k_fill; intro X; refine wpAny_call ?_; k_dflt ktr_enter; walk_at "loc"; refine genT ?_; intro tk9)
    walk_at "st9"
    all_goals first
      | (refine' hret _ _ _ _ ?F ?N ?D ?P; (case F => k_asm); (case N => k_asm); (case D => first | assumption | walk_at "dm"); (case P => exact ⟨rfl, _, rfl, ⟨_, _, _, hc9⟩⟩))
      | (refine' TurnW.rot ?F ?N ?D ?n ?j; (case F => k_asm); (case N => k_asm); (case D => assumption); (case n => exact Nat.lt_succ_self _); (case j => exact ⟨rfl, hm1, _, _, by first | rfl | assumption, ⟨_, _, _, hd9⟩, by assumption⟩)))) only [↓hidL]
end Mine
namespace Mine
open PySem PySem.Calls PyProof.Rows PySem.Spec
theorem set_led {prog : Program} {w : World} {A : Around} {E : Value → Shared → Prop} {s : Shared} {h₀ : Heap} {L D : Addr} {m : Str → Option Value} {news news' : Led} {vs : List Value} {n : Nat} {k : Int} {t : Tok} {v : Value} {Q : Unit → Shared → Prop} (F : Fr h₀ L s.heap m) (Nw : News h₀ L s.heap news) (U : Upd D (listOf vs.toArray n) (listOf (vs.set k.toNat v).toArray n) news news')
    (h0 : 0 ≤ k) (h1 : k < (vs.length : Int)) (hz : vs.length < 1000000) (h : ∀ h', Fr h₀ L h' m → News h₀ L h' news' → Q () { s with heap := h' }) : wpAny (model prog w) A (setItem (.ref D) (.int k t) v) Q E s := by
  obtain ⟨pre, post, rfl, rfl, a, b⟩ := U.split
  have z := Nw (D, listOf vs.toArray n) (List.mem_append.mpr (.inr (.head _)))
  refine ki_setAt z.1 h0 (by (first | with_reducible exact om260 h1 hz | omega)) (by simpa using h1) (h _ (F.change (Heap.SameBut.update ..) z.2.1 z.2.2) (ki_turn _ Nw a b ?_ ?_))
  · apply Array.toList_inj.mp
    simp
  · simp
theorem StoreAt.mono {st sy : Addr} {hp : List (Int × Int)} {J J' H : Led} (h : StoreAt st sy hp J H) (i : ∀ p ∈ J, p ∈ J') : StoreAt st sy hp J' H := by
  obtain ⟨dst, hl, stk, trl, h1, h2, h3, h4, h5, h6, h7, k1, k2, k3, k4, k5, k6, k7, u1, u2, u3, vs, n, e, hV⟩ := h
  exact ⟨dst, hl, stk, trl, h1, h2, h3, h4, h5, h6, h7, k1, k2, k3, k4, k5, k6, k7, u1, u2, u3, vs, n, e, hV.mono i⟩
theorem CellsV.get {J : Led} {vs : List Value} {hp : List (Int × Int)} {i : Nat} {c : Int × Int} (h : CellsV J vs hp) (hc : hp[i]? = some c) : ∃ a t t' k, vs[i]? = some (.ref a) ∧ (a, tupO [.int c.1 t, .int c.2 t'] k) ∈ J ∧ i < vs.length := by
  obtain ⟨a, h1, t, t', k, h2⟩ := h.2 i c hc
  exact ⟨a, t, t', k, h1, h2, (List.getElem?_eq_some_iff.mp h1).1⟩
end Mine
theorem Mine.wd78 : True := by
  (k_with "W setItem ref int" => (k_here; k_dflt (refine' Mine.set_led ?FW78 ?NW78 ?UW78 ?aW78 ?bW78 ?zW78 ?_; (case FW78 => k_asm); (case NW78 => k_asm); (case UW78 => k_upd); (case aW78 => first | assumption | walk_at "ar"); (case bW78 => first | assumption | walk_at "ar"); (case zW78 => first | assumption | walk_at "ar"); k_whole); intro hZ9 FZ9 NZ9; (try k_sweep)))
  trivial
namespace Mine
open PySem PySem.Calls PyProof.Rows PySem.Spec
inductive base2_R (i : Int) (J H R : Led) (r : Value) (led' : Led) : Prop
  | mk : led' = H ++ (J ++ R) → ∀ u, r = .int (i + 1) u → base2_R i J H R r led'
def base2_R_T (i : Int) (J H R : Led) (K7 : Value → Led → Prop) : Prop := ∀ u, K7 (.int (i + 1) u) (H ++ (J ++ R))
theorem base2_R_pt {i : Int} {J H R : Led} (K7 : Value → Led → Prop) (k7 : base2_R_T i J H R K7) (r : Value) (led' : Led) (h7 : base2_R i J H R r led') : K7 r led' := by
  obtain ⟨a0, _, a1⟩ := h7
  subst a0
  subst a1
  exact k7 _
theorem base2_tells {w : World} {st sy c : Addr} {hp : List (Int × Int)} {i : Int} {J H R : Led} (hH : StoreAt st sy hp J H) (hc : CellIn J c (2, i)) :
    Tells w 349 [.ref st, .ref c] 1 (H ++ (J ++ R)) (base2_R i J H R) NoErr := by
  have h := base_tells (w := w) (R := R) hH hc
  refine tells_imp h fun r l ⟨e, u, hr⟩ => ⟨e, u, hr⟩
def arg_R_T (d : Int × Int) (J H R : Led) (K7 : Value → Led → Prop) : Prop := ∀ a, CellIn J a d → K7 (.ref a) (H ++ (J ++ R))
def arg_R (d : Int × Int) (J H R : Led) (r : Value) (led' : Led) : Prop := ∀ K7 : Value → Led → Prop, arg_R_T d J H R K7 → K7 r led'
theorem arg_R_mk {d : Int × Int} {J H R : Led} {r : Value} {led' : Led} : led' = H ++ (J ++ R) → ∀ a, r = .ref a → CellIn J a d → arg_R d J H R r led' := by
  intro a0 _ a1 a2
  subst a0
  subst a1
  exact fun K7 k7 => k7 _ a2
theorem arg_R_pt {d : Int × Int} {J H R : Led} (K7 : Value → Led → Prop) (k7 : arg_R_T d J H R K7) (r : Value) (led' : Led) (h7 : arg_R d J H R r led') : K7 r led' := h7 K7 k7
theorem arg_tells {w : World} {st sy c : Addr} {hp : List (Int × Int)} {i k : Int} {d : Int × Int} {t : Tok} {J H R : Led} (hH : StoreAt st sy hp J H) (hc : CellIn J c (2, i)) (hz : hp.length < 90000) (h0 : 0 ≤ i) (hk : 0 ≤ k) (hx : hp[(i + 1 + k - 1).toNat]? = some d) :
    Tells w 356 [.ref st, .ref c, .int k t] 2 (H ++ (J ++ R)) (arg_R d J H R) NoErr := by
  refine hidE ?_; simp (disch := k_dflt (
    refine hidW ?_
    intro dp un gd cn cs L a ccd cl outer A₀ base h₀ p loose mean mg mb m s Q E B F X N T hk dm hd hu hret hthr
    refine store_inst hH ?_; intro dst hl stk trl h1 h2 h3 h4 h5 h6 h7 k1 k2 k3 k4 k5 k6 k7 u1 u2 u3 vs n hI1 hI2 hI3 hV
    have hVl := hV.1
    (refine Gen fun gG9 gK9 => ?_; obtain ⟨d9, t7, t6, k7, hv9, hd9, hlt⟩ := hV.get hx; refine gK9 ?_; clear gK9 gG9)
    rename Option (List Code) => gd40Z; (k_with "ar2" => guard_hyp gd40Z; first | with_reducible exact om261 hz hVl hlt | with_reducible exact op15 h0 hk)
    k_with "mine call" => guard_hyp gd40Z; (k_dflt (refine' go2n (e := base2_R_pt) (base2_tells hH hc) ?B256 ?F256 ?X256 ?N256 ?T256 ?hk256 ?d256 ?r256 ?rr256 ?hd256 ?hu256 ?_; (case B256 => k_asm); (case F256 => k_asm); (case X256 => k_asm); (case N256 => k_asm); (case T256 => k_asm); (case hk256 => first | exact rfl | assumption); (case d256 => walk_at "dmx"); (case r256 => walk_at "rot"); (case rr256 => walk_at "rot"); (case hd256 => walk_at "hdx"); (case hu256 => walk_at "hux"); intro u9 h9 tk9 F9 N9 D9; (try k_sweep); (try dsimp only)))
    (revert X; k_fill; intro X; refine wpAny_call ?_; k_dflt ktr_enter; walk_at "loc"; refine genT ?_; intro tk9)
    walk_at "st9"
    all_goals (refine' hret _ _ _ _ ?F ?N ?D ?P; (case F => k_asm); (case N => k_asm); (case D => first | assumption | walk_at "dm"); (case P => exact arg_R_mk rfl _ rfl (⟨_, _, _, hd9⟩))))) only [↓hidL]
def functor_of_R_T (f : Int) (J H R : Led) (K7 : Value → Led → Prop) : Prop := ∀ u, K7 (.int f u) (H ++ (J ++ R))
def functor_of_R (f : Int) (J H R : Led) (r : Value) (led' : Led) : Prop := ∀ K7 : Value → Led → Prop, functor_of_R_T f J H R K7 → K7 r led'
theorem functor_of_R_mk {f : Int} {J H R : Led} {r : Value} {led' : Led} : led' = H ++ (J ++ R) → ∀ u, r = .int f u → functor_of_R f J H R r led' := by
  intro a0 _ a1
  subst a0
  subst a1
  exact fun K7 k7 => k7 _
theorem functor_of_R_pt {f : Int} {J H R : Led} (K7 : Value → Led → Prop) (k7 : functor_of_R_T f J H R K7) (r : Value) (led' : Led) (h7 : functor_of_R f J H R r led') : K7 r led' := h7 K7 k7
theorem functor_of_tells {w : World} {st sy c : Addr} {hp : List (Int × Int)} {i f : Int} {J H R : Led} (hH : StoreAt st sy hp J H) (hc : CellIn J c (2, i)) (hz : hp.length < 90000) (h0 : 0 ≤ i) (hx : hp[i.toNat]? = some (6, f)) :
    Tells w 335 [.ref st, .ref c] 2 (H ++ (J ++ R)) (functor_of_R f J H R) NoErr := by
  refine hidE ?_; simp (disch := k_dflt (
    refine hidW ?_
    intro dp un gd cn cs L a ccd cl outer A₀ base h₀ p loose mean mg mb m s Q E B F X N T hk dm hd hu hret hthr
    refine store_inst hH ?_; intro dst hl stk trl h1 h2 h3 h4 h5 h6 h7 k1 k2 k3 k4 k5 k6 k7 u1 u2 u3 vs n hI1 hI2 hI3 hV
    have hVl := hV.1
    (refine Gen fun gG9 gK9 => ?_; obtain ⟨t1, t2, kc, hc⟩ := hc; refine gK9 ?_; clear gK9 gG9)
    (refine Gen fun gG9 gK9 => ?_; obtain ⟨d9, t7, t6, k7, hv9, hd9, hlt⟩ := hV.get hx; refine gK9 ?_; clear gK9 gG9)
    dsimp only at hc hd9
    rename Option (List Code) => gd41Z; (k_with "ar2" => guard_hyp gd41Z; first | with_reducible exact om262 hz hVl hlt)
    (revert X; k_fill; intro X; refine wpAny_call ?_; k_dflt ktr_enter; walk_at "loc"; refine genT ?_; intro tk9)
    walk_at "st9"
    all_goals (refine' hret _ _ _ _ ?F ?N ?D ?P; (case F => k_asm); (case N => k_asm); (case D => first | assumption | walk_at "dm"); (case P => exact functor_of_R_mk rfl _ rfl)))) only [↓hidL]
def push_R_T (st sy : Addr) (hp : List (Int × Int)) (ct : Int × Int) (J R : Led) (K7 : Value → Led → Prop) : Prop := ∀ H', ∀ u, StoreAt st sy (hp ++ [ct]) J H' → K7 (.int hp.length u) (H' ++ (J ++ R))
def push_R (st sy : Addr) (hp : List (Int × Int)) (ct : Int × Int) (J R : Led) (r : Value) (led' : Led) : Prop := ∀ K7 : Value → Led → Prop, push_R_T st sy hp ct J R K7 → K7 r led'
theorem push_R_mk {st sy : Addr} {hp : List (Int × Int)} {ct : Int × Int} {J R : Led} {r : Value} {led' : Led} : ∀ H', StoreAt st sy (hp ++ [ct]) J H' → led' = H' ++ (J ++ R) → ∀ u, r = .int hp.length u → push_R st sy hp ct J R r led' := by
  intro _ a0 a1 _ a2
  subst a1
  subst a2
  exact fun K7 k7 => k7 _ _ a0
theorem push_R_pt {st sy : Addr} {hp : List (Int × Int)} {ct : Int × Int} {J R : Led} (K7 : Value → Led → Prop) (k7 : push_R_T st sy hp ct J R K7) (r : Value) (led' : Led) (h7 : push_R st sy hp ct J R r led') : K7 r led' := h7 K7 k7
theorem push_tells {w : World} {st sy c : Addr} {hp : List (Int × Int)} {ct : Int × Int} {J H R : Led} (hH : StoreAt st sy hp J H) (hc : CellIn J c ct) (hz : hp.length < 90000) :
    Tells w 244 [.ref st, .ref c] 1 (H ++ (J ++ R)) (push_R st sy hp ct J R) NoErr := by
  refine hidE ?_; simp (disch := k_dflt (
    refine hidW ?_
    intro dp un gd cn cs L a ccd cl outer A₀ base h₀ p loose mean mg mb m s Q E B F X N T hk dm hd hu hret hthr
    have hH8 := hH; refine store_open hH ?_; rintro dst hl stk trl h1 h2 h3 h4 h5 h6 h7 k1 k2 k3 k4 k5 k6 k7 u1 u2 u3 vs n rfl hV; have hVl := hV.1; (try dsimp only [List.cons_append, List.nil_append] at N dm)
    rename Option (List Code) => gd42Z
    (revert X; k_fill; intro X; refine wpAny_call ?_; k_dflt ktr_enter; walk_at "loc"; refine genT ?_; intro tk9)
    walk_at "st9"
    all_goals (refine' hret _ _ _ _ ?F ?N ?D ?P; (case F => k_asm); (case N => k_asm); (case D => first | assumption | walk_at "dm"); (case P => exact push_R_mk _ ((store_mk (hV.push hc))) rfl _ (by rw [← hVl]))))) only [↓hidL]
def bind_R_T (st sy : Addr) (hp : List (Int × Int)) (i : Int) (ct : Int × Int) (J R : Led) (K7 : Value → Led → Prop) : Prop := ∀ H', StoreAt st sy (hp.set i.toNat ct) J H' → K7 (.none) (H' ++ (J ++ R))
def bind_R (st sy : Addr) (hp : List (Int × Int)) (i : Int) (ct : Int × Int) (J R : Led) (r : Value) (led' : Led) : Prop := ∀ K7 : Value → Led → Prop, bind_R_T st sy hp i ct J R K7 → K7 r led'
theorem bind_R_mk {st sy : Addr} {hp : List (Int × Int)} {i : Int} {ct : Int × Int} {J R : Led} {r : Value} {led' : Led} : ∀ H', StoreAt st sy (hp.set i.toNat ct) J H' → led' = H' ++ (J ++ R) → r = .none → bind_R st sy hp i ct J R r led' := by
  intro _ a0 a1 a2
  subst a1
  subst a2
  exact fun K7 k7 => k7 _ a0
theorem bind_R_pt {st sy : Addr} {hp : List (Int × Int)} {i : Int} {ct : Int × Int} {J R : Led} (K7 : Value → Led → Prop) (k7 : bind_R_T st sy hp i ct J R K7) (r : Value) (led' : Led) (h7 : bind_R st sy hp i ct J R r led') : K7 r led' := h7 K7 k7
theorem bind_tells {w : World} {st sy c v : Addr} {hp : List (Int × Int)} {i : Int} {ct : Int × Int} {J H R : Led} (hH : StoreAt st sy hp J H) (hc : CellIn J c (0, i)) (hv : CellIn J v ct) (hz : hp.length < 90000) (h0 : 0 ≤ i) (hi : i < (hp.length : Int)) :
    Tells w 286 [.ref st, .ref c, .ref v] 1 (H ++ (J ++ R)) (bind_R st sy hp i ct J R) NoErr := by
  refine hidE ?_; simp (disch := k_dflt (
    refine hidW ?_
    intro dp un gd cn cs L a ccd cl outer A₀ base h₀ p loose mean mg mb m s Q E B F X N T hk dm hd hu hret hthr
    have hH8 := hH; refine store_open hH ?_; rintro dst hl stk trl h1 h2 h3 h4 h5 h6 h7 k1 k2 k3 k4 k5 k6 k7 u1 u2 u3 vs n rfl hV; have hVl := hV.1; (try dsimp only [List.cons_append, List.nil_append] at N dm)
    (refine Gen fun gG9 gK9 => ?_; obtain ⟨t1, t2, kc, hc⟩ := hc; refine gK9 ?_; clear gK9 gG9)
    dsimp only at hc
    have hi9 : i < (vs.length : Int) := by walk_at "ar"
    rename Option (List Code) => gd43Z; (k_with "ar2" => guard_hyp gd43Z; first | with_reducible exact op55 h0)
    (revert X; k_fill; intro X; refine wpAny_call ?_; k_dflt ktr_enter; walk_at "loc"; refine genT ?_; intro tk9)
    walk_at "st9"
    all_goals (refine' hret _ _ _ _ ?F ?N ?D ?P; (case F => k_asm); (case N => k_asm); (case D => first | assumption | walk_at "dm"); (case P => exact bind_R_mk _ ((store_mk (hV.set hv))) rfl rfl)))) only [↓hidL]
def globalise_R_T (ce : Int × Int) (J H R : Led) (K7 : Value → Led → Prop) : Prop := ∀ a, CellIn J a ce → K7 (.ref a) (H ++ (J ++ R))
def globalise_R (ce : Int × Int) (J H R : Led) (r : Value) (led' : Led) : Prop := ∀ K7 : Value → Led → Prop, globalise_R_T ce J H R K7 → K7 r led'
theorem globalise_R_mk {ce : Int × Int} {J H R : Led} {r : Value} {led' : Led} : led' = H ++ (J ++ R) → ∀ a, r = .ref a → CellIn J a ce → globalise_R ce J H R r led' := by
  intro a0 _ a1 a2
  subst a0
  subst a1
  exact fun K7 k7 => k7 _ a2
theorem globalise_R_pt {ce : Int × Int} {J H R : Led} (K7 : Value → Led → Prop) (k7 : globalise_R_T ce J H R K7) (r : Value) (led' : Led) (h7 : globalise_R ce J H R r led') : K7 r led' := h7 K7 k7
theorem globalise_tells {w : World} {st sy c : Addr} {hp : List (Int × Int)} {ct ce : Int × Int} {q : Nat} {J H R : Led} (hH : StoreAt st sy hp J H) (hc : CellIn J c ct) (hz : hp.length < 90000) (hde : Der hp q ct ce) (h1 : ce.1 ≠ 1) :
    Tells w 300 [.ref st, .ref c] 2 (H ++ (J ++ R)) (globalise_R ce J H R) NoErr := by
  refine hidE ?_; simp (disch := k_dflt (
    refine hidW ?_
    intro dp un gd cn cs L a ccd cl outer A₀ base h₀ p loose mean mg mb m s Q E B F X N T hk dm hd hu hret hthr
    have hce1 := h1
    refine store_inst hH ?_; intro dst hl stk trl h1 h2 h3 h4 h5 h6 h7 k1 k2 k3 k4 k5 k6 k7 u1 u2 u3 vs n hI1 hI2 hI3 hV
    have hVl := hV.1
    rename Option (List Code) => gd44Z
    k_with "mine call" => guard_hyp gd44Z; (k_dflt (refine' go2n (e := ptId) (deref_tells hH hc (Nat.lt_trans hz (by decide)) hde) ?B267 ?F267 ?X267 ?N267 ?T267 ?hk267 ?d267 ?r267 ?rr267 ?hd267 ?hu267 ?_; (case B267 => k_asm); (case F267 => k_asm); (case X267 => k_asm); (case N267 => k_asm); (case T267 => k_asm); (case hk267 => first | exact rfl | assumption); (case d267 => walk_at "dmx"); (case r267 => walk_at "rot"); (case rr267 => walk_at "rot"); (case hd267 => walk_at "hdx"); (case hu267 => walk_at "hux"); intro r9 led9 hR9 h9 tk9 F9 N9 D9; (refine Gen fun gG9 gK9 => ?_; obtain ⟨f9, a9, g9, t9, t8, k9, hc9⟩ := hR9; subst f9 g9; refine gK9 ?_; clear gK9 gG9); (try k_sweep); (try dsimp only)))
    (revert X; k_fill; intro X; refine wpAny_call ?_; k_dflt ktr_enter; walk_at "loc"; refine genT ?_; intro tk9)
    walk_at "st9"
    all_goals (refine' hret _ _ _ _ ?F ?N ?D ?P; (case F => k_asm); (case N => k_asm); (case D => first | assumption | walk_at "dm"); (case P => exact globalise_R_mk rfl _ rfl (⟨_, _, _, hc9⟩))))) only [↓hidL]
end Mine
namespace Mine
open PySem PySem.Calls PyProof.Rows PySem.Spec
section
variable {prog : Program} {w : World} {A : Around} {E : Value → Shared → Prop} {s : Shared} {env : Env} {h₀ : Heap} {x : Str} {body : List Stmt} {Q : Flow → Shared → Prop}
theorem range_size {n : Nat} : Builtin.Range.rangeSize 0 (n : Int) 1 = (n : Int) := by
  unfold Builtin.Range.rangeSize
  rw [if_pos (by decide)]
  split
  · rw [Int.ediv_one]; (first | with_reducible exact om109 | with_reducible exact om110 (by assumption) | omega)
  · (first | with_reducible exact om109 | with_reducible exact om110 (by assumption) | omega)
theorem iter_range {r : Addr} {a b c : Int} {t u v : Tok} {n : Nat} {m : Str → Option Value} {led : Led} (J : Nat → (Str → Option Value) → Led → Prop) (hh : A.handled = none) (hr : IsRange s.heap r a b c t u v) (hsm : Builtin.Range.small a b c = true) (hn : Builtin.Range.rangeSize a b c = (n : Int)) (F : Fr h₀ env.locals s.heap m) (N : News h₀ env.locals s.heap led) (dm : Dm led) (hj : J 0 m led)
    (turn : ∀ i tv m₁ led₁ h tk I io, i < n → J i m₁ led₁ → Fr h₀ env.locals h (fun y => if y = x then some (.int (a + (i : Int) * c) tv) else m₁ y) → News h₀ env.locals h ((I, io) :: led₁) → Dm ((I, io) :: led₁) → io.cls ≠ .type "tuple" →
      wpAny (model prog w) A (execs body env) (TurnQ h₀ env.locals { s with heap := h, toks := tk } I io (J (i + 1)) Q) E { s with heap := h, toks := tk })
    (done : ∀ m₁ led₁ h tk, J n m₁ led₁ → Fr h₀ env.locals h m₁ → News h₀ env.locals h led₁ → Dm led₁ → Q .next { s with heap := h, toks := tk }) :
    wpAny (model prog w) A (pyIter (.ref r)) (fun it s₂ => LoopAtV prog w A h₀ env x body Q E it s₂) E s := by
  refine wpAny_pyIter_range hr hsm ?_
  refine iter_at J (Walks.range (prog := prog) (w := w) hh s.heap.objs.size a c n) (.head _) (fun hm => absurd F.ns.lt (List.mem_singleton.mp hm ▸ Nat.lt_irrefl _)) (fun b hb => .inl (List.mem_singleton.mp hb)) (show Value.type "range_iterator" ≠ Value.type "tuple" by decide) (fun i h st => ⟨_, st, rfl⟩) ?_ F N dm hj (fun i v m₁ led₁ h tk I io hP hin hJ => ?_) done
  · have e1 : a + ((0 : Nat) : Int) * c = a := by simp
    have e2 : (n : Int) - ((0 : Nat) : Int) = Builtin.Range.rangeSize a b c := by rw [hn]; simp
    show IsRangeIter _ _ (a + ((0 : Nat) : Int) * c) ((n : Int) - ((0 : Nat) : Int)) c
    rw [e1, e2]
    exact Heap.get?_push_size _ rfl
  · obtain ⟨tv, rfl⟩ := hP
    exact turn i tv m₁ led₁ h tk I io hin hJ
end
theorem cell_head {a : Addr} {x y i j : Int} {t t' : Tok} {k : Nat} {J : Led} (e1 : x = i) (e2 : y = j) : CellIn ((a, tupO [.int x t, .int y t'] k) :: J) a (i, j) := ⟨t, t', k, by rw [← e1, ← e2]; exact .head _⟩
theorem TurnQ.rot2 {h₀ : Heap} {L : Addr} {s₁ : Shared} {I : Addr} {io : Obj} {J : (Str → Option Value) → Led → Prop} {Q : Flow → Shared → Prop} {h' : Heap} {tk : Nat} {m' : Str → Option Value} {led0 P R1 R2 : Led}
    (F : Fr h₀ L h' m') (N : News h₀ L h' led0) (d : Dm led0) (r : Rot [(I, io)] led0 R1) (r2 : Rot P R1 R2) (hj : J m' (P ++ R2)) : TurnQ h₀ L s₁ I io J Q .next { s₁ with heap := h', toks := tk } :=
  have p : led0.Perm ((I, io) :: (P ++ R2)) := r.perm.trans (List.Perm.cons _ r2.perm)
  TurnQ.next F (News.perm p N) (Dm.perm p d) hj
theorem TurnQ.rot4 {h₀ : Heap} {L : Addr} {s₁ : Shared} {I : Addr} {io : Obj} {J : (Str → Option Value) → Led → Prop} {Q : Flow → Shared → Prop} {h' : Heap} {tk : Nat} {m' : Str → Option Value} {led0 P P2 P3 R1 R2 R3 R4 : Led}
    (F : Fr h₀ L h' m') (N : News h₀ L h' led0) (d : Dm led0) (r : Rot [(I, io)] led0 R1) (r1 : Rot P R1 R2) (r2 : Rot P2 R2 R3) (r3 : Rot P3 R3 R4) (hj : J m' (P ++ (P2 ++ (P3 ++ R4)))) : TurnQ h₀ L s₁ I io J Q .next { s₁ with heap := h', toks := tk } :=
  have p : led0.Perm ((I, io) :: (P ++ (P2 ++ (P3 ++ R4)))) := r.perm.trans (List.Perm.cons _ (Rot.three r1 r2 r3))
  TurnQ.next F (News.perm p N) (Dm.perm p d) hj
theorem CellsV.snoc {J : Led} {vs : List Value} {hp : List (Int × Int)} {i : Nat} {a : Addr} {c : Int × Int} (h : CellsV J vs (hp.take i)) (hc : hp[i]? = some c) (ha : CellIn J a c) : CellsV J (vs ++ [.ref a]) (hp.take (i + 1)) := by
  rw [List.take_add_one, hc]; exact h.push ha
end Mine
namespace Mine
open PySem PySem.Calls PyProof.Rows PySem.Spec
inductive newvar_R (st sy : Addr) (hp : List (Int × Int)) (J R : Led) (r : Value) (led' : Led) : Prop
  | mk : ∀ c, ∀ H', ∀ t, ∀ t', ∀ k, r = .ref c → StoreAt st sy (hp ++ [(0, (hp.length : Int))]) ((c, tupO [.int 0 t, .int (hp.length : Int) t'] k) :: J) H' → led' = H' ++ (((c, tupO [.int 0 t, .int (hp.length : Int) t'] k) :: J) ++ R) → newvar_R st sy hp J R r led'
def newvar_R_T (st sy : Addr) (hp : List (Int × Int)) (J R : Led) (K7 : Value → Led → Prop) : Prop := ∀ c, ∀ H', ∀ t, ∀ t', ∀ k, StoreAt st sy (hp ++ [(0, (hp.length : Int))]) ((c, tupO [.int 0 t, .int (hp.length : Int) t'] k) :: J) H' → K7 (.ref c) (H' ++ (((c, tupO [.int 0 t, .int (hp.length : Int) t'] k) :: J) ++ R))
theorem newvar_R_pt {st sy : Addr} {hp : List (Int × Int)} {J R : Led} (K7 : Value → Led → Prop) (k7 : newvar_R_T st sy hp J R K7) (r : Value) (led' : Led) (h7 : newvar_R st sy hp J R r led') : K7 r led' := by
  obtain ⟨_, _, _, _, _, a0, a1, a2⟩ := h7
  subst a0
  subst a2
  exact k7 _ _ _ _ _ a1
theorem newvar_tells {w : World} {st sy : Addr} {hp : List (Int × Int)} {J H R : Led} (hH : StoreAt st sy hp J H) (hz : hp.length < 90000) :
    Tells w 251 [.ref st] 2 (H ++ (J ++ R)) (newvar_R st sy hp J R) NoErr := by
  refine hidE ?_; simp (disch := k_dflt (
    refine hidW ?_
    intro dp un gd cn cs L a ccd cl outer A₀ base h₀ p loose mean mg mb m s Q E B F X N T hk dm hd hu hret hthr
    have hH8 := hH; refine store_open hH ?_; rintro dst hl stk trl h1 h2 h3 h4 h5 h6 h7 k1 k2 k3 k4 k5 k6 k7 u1 u2 u3 vs n rfl hV; have hVl := hV.1; (try dsimp only [List.cons_append, List.nil_append] at N dm)
    rename Option (List Code) => gd45Z
    k_with "mine call" => guard_hyp gd45Z; (k_dflt (refine' go2n (e := push_R_pt) (push_tells (ct := (0, _)) (J := (_, _) :: J) (hH8.mono fun _ h => .tail _ h) ⟨_, _, _, .head _⟩ hz) ?B271 ?F271 ?X271 ?N271 ?T271 ?hk271 ?d271 ?r271 ?rr271 ?hd271 ?hu271 ?_; (case B271 => k_asm); (case F271 => k_asm); (case X271 => k_asm); (case N271 => k_asm); (case T271 => k_asm); (case hk271 => first | exact rfl | assumption); (case d271 => walk_at "dmx"); (case r271 => walk_at "rot"); (case rr271 => walk_at "rot"); (case hd271 => walk_at "hdx"); (case hu271 => walk_at "hux"); intro H9 u9 hH9 h9 tk9 F9 N9 D9; (try simp only [List.cons_append, List.nil_append, List.append_nil, List.append_assoc] at N9 D9); (try k_sweep); (try dsimp only)))
    (revert X; k_fill; intro X; refine wpAny_call ?_; k_dflt ktr_enter; walk_at "loc"; refine genT ?_; intro tk9)
    walk_at "st9"
    refine' hret _ _ _ _ ?F ?N ?D ?P
    (case F => k_asm)
    (case N => k_asm)
    (case D => first | assumption | walk_at "dm")
    (case P => rw [hVl] at hH9 ⊢; exact ⟨_, H9, _, _, _, rfl, hH9, rfl⟩))) only [↓hidL]
theorem range_small {n : Nat} (h : n < 1000) : Builtin.Range.small 0 (n : Int) 1 = true := by
  unfold Builtin.Range.small
  simp only [range_size]
  have h1 : Builtin.Range.rangeFitsLong (n : Int) = true := by unfold Builtin.Range.rangeFitsLong; simp; (first | with_reducible exact om155 h | omega)
  simp [h1]
  decide
noncomputable def zs (n : Nat) (k : Nat) : List (Int × Int) := (List.range k).map fun (j : Nat) => ((0 : Int), (n : Int) + (j : Int))
theorem zs_succ {n k : Nat} : zs n (k + 1) = zs n k ++ [(0, (n : Int) + k)] := by
  unfold zs; rw [List.range_succ, List.map_append]; rfl
theorem zs_len {n k : Nat} : (zs n k).length = k := by unfold zs; simp
inductive reserve_R (st sy : Addr) (hp : List (Int × Int)) (J R : Led) (cnt : Nat) (r : Value) (led' : Led) : Prop
  | mk : ∀ Jn, ∀ H', TupL Jn → StoreAt st sy (hp ++ zs hp.length cnt) (Jn ++ J) H' → led' = H' ++ ((Jn ++ J) ++ R) → ∀ u, r = .int hp.length u → reserve_R st sy hp J R cnt r led'
def reserve_R_T (st sy : Addr) (hp : List (Int × Int)) (J R : Led) (cnt : Nat) (K7 : Value → Led → Prop) : Prop := ∀ Jn, ∀ H', ∀ u, TupL Jn → StoreAt st sy (hp ++ zs hp.length cnt) (Jn ++ J) H' → K7 (.int hp.length u) (H' ++ ((Jn ++ J) ++ R))
theorem reserve_R_pt {st sy : Addr} {hp : List (Int × Int)} {J R : Led} {cnt : Nat} (K7 : Value → Led → Prop) (k7 : reserve_R_T st sy hp J R cnt K7) (r : Value) (led' : Led) (h7 : reserve_R st sy hp J R cnt r led') : K7 r led' := by
  obtain ⟨_, _, a0, a1, a2, _, a3⟩ := h7
  subst a2
  subst a3
  exact k7 _ _ _ a0 a1
theorem reserve_tells {w : World} {st sy : Addr} {hp : List (Int × Int)} {J H R : Led} {t0 : Tok} {cnt : Nat} (hH : StoreAt st sy hp J H) (hz : hp.length < 90000) (hcnt : cnt < 1000) :
    Tells w 258 [.ref st, .int (cnt : Int) t0] 1 (H ++ (J ++ R)) (reserve_R st sy hp J R cnt) NoErr := by
  refine hidE ?_; simp (disch := k_dflt (
    refine hidW ?_
    intro dp un gd cn cs L a ccd cl outer A₀ base h₀ p loose mean mg mb m s Q E B F X N T hk dm hd hu hret hthr
    have hH8 := hH; refine store_open hH ?_; rintro dst hl stk trl h1 h2 h3 h4 h5 h6 h7 k1 k2 k3 k4 k5 k6 k7 u1 u2 u3 vs n rfl hV; have hVl := hV.1; (try dsimp only [List.cons_append, List.nil_append] at N dm)
    rename Option (List Code) => gd46Z; (k_with "ar2" => guard_hyp gd46Z; first | with_reducible exact om152 | with_reducible exact om154 hz hcnt hi (by assumption))
    k_with "mine iter" => guard_hyp gd46Z; (k_dflt (refine' iter_range (n := cnt) (J := fun i m led => m (Str.ofString "self") = some (.ref st) ∧ (∃ u, m (Str.ofString "first") = some (.int (hp.length : Int) u)) ∧ ∃ Jn H', TupL Jn ∧ StoreAt st sy (hp ++ zs hp.length i) (Jn ++ J) H' ∧ led = H' ++ ((Jn ++ J) ++ R)) ?hh7 ?hr7 ?hs7 ?hn7 ?F7 ?N7 ?D7 ?J7 (fun i tv m₁ led₁ h tk I io hi hJ F1 N1 D1 hio => genK fun K9 hK9 => ?_) (fun m₁ led₁ h tk hJ F1 N1 D1 => ?_); (case hh7 => exact rfl); (case hr7 => assumption); (case hs7 => exact range_small hcnt); (case hn7 => exact range_size); (case F7 => k_asm); (case N7 => k_asm); (case D7 => assumption); (case J7 => exact ⟨by first | rfl | assumption, ⟨_, by first | rfl | (rw [← hVl]; rfl)⟩, [], _, tupL_nil, by simpa [zs] using hH8, rfl⟩)); (try k_sweep))
    (revert X; k_fill; intro X; refine wpAny_call ?_; k_dflt ktr_enter; walk_at "loc"; refine genT ?_; intro tk9)
    walk_at "st9"
    · (refine Gen fun gG9 gK9 => ?_; obtain ⟨hm1, ⟨u9, hm2⟩, Jn, H', hJn, hH9, rfl⟩ := hJ; refine gK9 ?_; clear gK9 gG9)
      refine store_open hH9 ?_; rintro dst hl stk trl h1 h2 h3 h4 h5 h6 h7 k1 k2 k3 k4 k5 k6 k7 u1 u2 u3 vs n rfl hV
      have hVl := hV.1
      rw [List.length_append, zs_len] at hVl
      dsimp only [List.cons_append, List.nil_append] at N1 D1
      have hI9 := ap_list (D1.cons_of.1 _ (.head _)) hio ncl
      k_sweep
      walk_at "st9"
      refine hK9 _ _ ?_; refine' TurnQ.rot2 (P := [(hl, _), (st, _), (dst, _), (stk, _), (trl, _)]) ?F8 ?N8 ?D8 ?r8 ?r9 ?J8
      (case F8 => k_asm)
      (case N8 => k_asm)
      (case D8 => walk_at "dm")
      (case r8 => walk_at "rot")
      (case r9 => walk_at "rot")
      (case J8 =>
        refine ⟨hm1, ⟨_, hm2⟩, (_, _) :: Jn, _, tupL_cons ?_ hJn, (store_mk (?_)), rfl⟩
        rotate_left
        · rw [zs_succ, ← List.append_assoc]
          exact CellsV.push (hV.mono fun _ h => .tail _ h) (cell_head rfl (by walk_at "ar"))
        · rfl)
    · (refine Gen fun gG9 gK9 => ?_; obtain ⟨hm1, ⟨u9, hm2⟩, Jn, H', hJn, hH9, rfl⟩ := hJ; refine gK9 ?_; clear gK9 gG9)
      walk_at "st9"
      exact hret _ _ _ _ (by k_asm) (by k_asm) (by assumption) ⟨Jn, H', hJn, hH9, rfl, _, rfl⟩)) only [↓hidL]
end Mine
theorem Mine.wd79 : True := by
  (k_with "W loadName" => (k_here; k_dflt (refine' ldn ?k1W79 ?k2W79 ?_; (case k1W79 => k_asm); (case k2W79 => assumption); k_whole)))
  trivial
namespace Mine
open PySem PySem.Calls PyProof.Rows PySem.Spec
theorem zs_cons {n k : Nat} : zs n (k + 1) = (0, (n : Int)) :: zs (n + 1) k := by
  unfold zs
  rw [List.range_succ_eq_map, List.map_cons, List.map_map]
  congr 1
  refine List.map_congr_left fun j _ => ?_
  simp only [Function.comp]; congr 1; omega
theorem set_zs {hp : List (Int × Int)} {k : Nat} {c : Int × Int} : (hp ++ zs hp.length (k + 1)).set hp.length c = hp ++ c :: zs (hp.length + 1) k := by
  rw [zs_cons, List.set_append_right _ _ (Nat.le_refl _), Nat.sub_self]; rfl
/-- the end, with what is no longer wanted left out -/
theorem out3D {h₀ h' : Heap} {L : Addr} {m : Str → Option Value} {s : Shared} {Q : Value → Shared → Prop} {led P P2 P3 R R1 R2 R3 G : Led} {Ret : Value → Led → Prop} {r : Value} {tk' : Nat} (hret : ∀ r led' h' tk', Fr h₀ L h' m → News h₀ L h' led' → Dm led' → Ret r led' → Q r { s with heap := h', toks := tk' })
    (F : Fr h₀ L h' m) (N : News h₀ L h' led) (d : Dm led) (r1 : Rot P led R1) (r2 : Rot P2 R1 R2) (r3 : Rot P3 R2 R3) (r4 : Rot R R3 G) (hR : Ret r (P ++ (P2 ++ (P3 ++ R)))) : Q r { s with heap := h', toks := tk' } :=
  have p : led.Perm ((P ++ (P2 ++ (P3 ++ R))) ++ G) := (Rot.three r1 r2 r3).trans (by
    rw [List.append_assoc, List.append_assoc, List.append_assoc]
    exact List.Perm.append_left P (List.Perm.append_left P2 (List.Perm.append_left P3 r4.perm)))
  hret _ _ _ _ F (News.sub (News.perm p N) fun _ h => List.mem_append_left _ h) (Dm.sub (Dm.perm p d) (List.sublist_append_left _ _)) hR
theorem reserveI_tells {w : World} {st sy : Addr} {hp : List (Int × Int)} {J H R : Led} {t0 : Tok} {ci : Int} {cnt : Nat} (hH : StoreAt st sy hp J H) (hz : hp.length < 90000) (hcnt : cnt < 1000) (e : ci = (cnt : Int)) :
    Tells w 258 [.ref st, .int ci t0] 1 (H ++ (J ++ R)) (reserve_R st sy hp J R cnt) NoErr := by
  subst e; exact reserve_tells hH hz hcnt
inductive newblk_R (st sy : Addr) (hp : List (Int × Int)) (S J R : Led) (f : Int) (k : Nat) (r : Value) (led' : Led) : Prop
  | mk : ∀ Jn, ∀ H', ∀ c, TupL Jn → r = .ref c → CellIn (Jn ++ J) c (2, (hp.length : Int)) → StoreAt st sy (hp ++ (6, f) :: zs (hp.length + 1) k) (Jn ++ J) H' → led' = H' ++ (S ++ ((Jn ++ J) ++ R)) → newblk_R st sy hp S J R f k r led'
def newblk_R_T (st sy : Addr) (hp : List (Int × Int)) (S J R : Led) (f : Int) (k : Nat) (K7 : Value → Led → Prop) : Prop := ∀ Jn, ∀ H', ∀ c, TupL Jn → CellIn (Jn ++ J) c (2, (hp.length : Int)) → StoreAt st sy (hp ++ (6, f) :: zs (hp.length + 1) k) (Jn ++ J) H' → K7 (.ref c) (H' ++ (S ++ ((Jn ++ J) ++ R)))
theorem newblk_R_pt {st sy : Addr} {hp : List (Int × Int)} {S J R : Led} {f : Int} {k : Nat} (K7 : Value → Led → Prop) (k7 : newblk_R_T st sy hp S J R f k K7) (r : Value) (led' : Led) (h7 : newblk_R st sy hp S J R f k r led') : K7 r led' := by
  obtain ⟨_, _, _, a0, a1, a2, a3, a4⟩ := h7
  subst a1
  subst a4
  exact k7 _ _ _ a0 a2 a3
theorem newblk_tells {w : World} {st sy : Addr} {hp : List (Int × Int)} {σ : Sy} {S J H R : Led} {f fa : Int} {k : Nat} {t0 : Tok} (hH : StoreAt st sy hp J H) (hS : SymAt w sy σ S) (hz : hp.length < 90000) (hk : k < 900) (h0 : 0 < f) (hfz : f < 100000) (hf : σ.funs[f.toNat]? = some (fa, (k : Int))) :
    Tells w 363 [.ref st, .int f t0] 2 (H ++ (S ++ (J ++ R))) (newblk_R st sy hp S J R f k) NoErr := by
  refine hidE ?_; simp (disch := k_dflt (
    refine hidW ?_
    intro dp un gd cn cs L a ccd cl outer A₀ base h₀ p loose mean mg mb m s Q E B F X N T hk dm hd hu hret hthr
    refine store_inst hH ?_; intro dst hl stk trl h1 h2 h3 h4 h5 h6 h7 k1 k2 k3 k4 k5 k6 k7 u1 u2 u3 vs n hI1 hI2 hI3 hV
    have hf0 : f ≠ 0 := by walk_at "ar"
    have hf1 : 0 ≤ f := by walk_at "ar"
    rename Option (List Code) => gd47Z; (k_with "ar2" => guard_hyp gd47Z; first | with_reducible exact om6 | with_reducible exact om18 | with_reducible exact om22 hVl | with_reducible exact op59 hz hk hVl | with_reducible exact op60 hk | with_reducible exact op22 h0)
    k_with "mine call" => guard_hyp gd47Z; first
      | k_dflt (refine' go1n (e := arity_R_pt) (arity_tells (by assumption) (by assumption) (by assumption) (by assumption)) ?B278 ?F278 ?X278 ?N278 ?T278 ?hk278 ?d278 ?r278 ?hd278 ?hu278 ?_; (case B278 => k_asm); (case F278 => k_asm); (case X278 => k_asm); (case N278 => k_asm); (case T278 => k_asm); (case hk278 => first | exact rfl | assumption); (case d278 => walk_at "dmx"); (case r278 => walk_at "rot"); (case hd278 => walk_at "hdx"); (case hu278 => walk_at "hux"); intro u9 h9 tk9 F9 N9 D9; (try k_sweep); (try dsimp only))
      | k_dflt (refine' go2n (e := reserve_R_pt) (reserveI_tells (cnt := k + 1) hH hz (by walk_at "ar") (by walk_at "ar")) ?B279 ?F279 ?X279 ?N279 ?T279 ?hk279 ?d279 ?r279 ?rr279 ?hd279 ?hu279 ?_; (case B279 => k_asm); (case F279 => k_asm); (case X279 => k_asm); (case N279 => k_asm); (case T279 => k_asm); (case hk279 => first | exact rfl | assumption); (case d279 => walk_at "dmx"); (case r279 => walk_at "rot"); (case rr279 => walk_at "rot"); (case hd279 => walk_at "hdx"); (case hu279 => walk_at "hux"); intro Jn9 H9 u9 hJ9 hH9 h9 tk9 F9 N9 D9; refine store_open hH9 ?_; rintro dst hl stk trl h1 h2 h3 h4 h5 h6 h7 k1 k2 k3 k4 k5 k6 k7 u1 u2 u3 vs n rfl hV; have hVl := hV.1; rw [List.length_append, zs_len] at hVl; have hV9 : (hp.length : Int) < (vs.length : Int) := (by walk_at "ar"); dsimp only [List.cons_append, List.nil_append] at N9 D9; (try k_sweep); (try dsimp only))
    refine sym_inst hS ?_; intro _ _ _ _ _ _ _ _ _ _ _ _ _ hi1 hi2
    (revert X; k_fill; intro X; refine wpAny_call ?_; k_dflt ktr_enter; walk_at "loc"; refine genT ?_; intro tk9)
    walk_at "st9"
    refine' out3D (P := [(hl, _), (st, _), (dst, _), (stk, _), (trl, _)]) (P2 := S) (P3 := _ :: _ :: (Jn9 ++ J)) (R := R) hret ?F281 ?N281 ?D281 ?r281 ?rr281 ?rrr281 ?rrrr281 ?P; (case F281 => k_asm); (case N281 => k_asm); (case D281 => walk_at "dm"); (case r281 => walk_at "rot"); (case rr281 => walk_at "rot"); (case rrr281 => walk_at "rot"); (case rrrr281 => walk_at "rot")
    (case P =>
      refine ⟨_ :: _ :: Jn9, _, _, tupL_cons rfl (tupL_cons rfl hJ9), rfl, cell_head rfl rfl, (store_mk (?_)), rfl⟩
      rw [← set_zs]
      exact CellsV.set (hV.mono fun _ h => .tail _ (.tail _ h)) ((cell_head rfl rfl).mono fun _ h => .tail _ h)))) only [↓hidL]
theorem CellsV.nil {J : Led} : CellsV J [] [] := ⟨rfl, fun i c h => by simp at h⟩
theorem set_turn {hp ces : List (Int × Int)} {i : Nat} {f : Int} {ce : Int × Int} (hce : ces[i]? = some ce) : (hp ++ (6, f) :: (ces.take i ++ zs (hp.length + 1 + i) (ces.length - i))).set (hp.length + 1 + i) ce = hp ++ (6, f) :: (ces.take (i + 1) ++ zs (hp.length + 1 + (i + 1)) (ces.length - (i + 1))) := by
  have hi : i < ces.length := (List.getElem?_eq_some_iff.mp hce).1
  rw [show ces.length - i = (ces.length - (i + 1)) + 1 by (first | with_reducible exact om10 hi | with_reducible exact om14 hi | omega), zs_cons]
  have e : ∀ X : List (Int × Int), hp ++ (6, f) :: (ces.take i ++ X) = (hp ++ (6, f) :: ces.take i) ++ X := fun X => by simp
  have hl : (hp ++ (6, f) :: ces.take i).length = hp.length + 1 + i := by simp; (first | with_reducible exact om10 hi | with_reducible exact om14 hi | omega)
  rw [e, ← hl, List.set_append_right _ _ (Nat.le_refl _), Nat.sub_self, List.set_cons_zero, List.take_add_one, hce, ← e, hl]
  simp [Nat.add_assoc]
inductive newstr_R (st sy : Addr) (hp ces : List (Int × Int)) (S J R : Led) (f : Int) (r : Value) (led' : Led) : Prop
  | mk : ∀ Jn, ∀ H', ∀ c, TupL Jn → r = .ref c → CellIn (Jn ++ J) c (2, (hp.length : Int)) → StoreAt st sy (hp ++ (6, f) :: ces) (Jn ++ J) H' → led' = H' ++ (S ++ ((Jn ++ J) ++ R)) → newstr_R st sy hp ces S J R f r led'
def newstr_R_T (st sy : Addr) (hp ces : List (Int × Int)) (S J R : Led) (f : Int) (K7 : Value → Led → Prop) : Prop := ∀ Jn, ∀ H', ∀ c, TupL Jn → CellIn (Jn ++ J) c (2, (hp.length : Int)) → StoreAt st sy (hp ++ (6, f) :: ces) (Jn ++ J) H' → K7 (.ref c) (H' ++ (S ++ ((Jn ++ J) ++ R)))
theorem newstr_R_pt {st sy : Addr} {hp ces : List (Int × Int)} {S J R : Led} {f : Int} (K7 : Value → Led → Prop) (k7 : newstr_R_T st sy hp ces S J R f K7) (r : Value) (led' : Led) (h7 : newstr_R st sy hp ces S J R f r led') : K7 r led' := by
  obtain ⟨_, _, _, a0, a1, a2, a3, a4⟩ := h7
  subst a1
  subst a4
  exact k7 _ _ _ a0 a2 a3
theorem newstr_tells {w : World} {st sy ca : Addr} {hp cts ces : List (Int × Int)} {σ : Sy} {S J H R : Led} {f fa : Int} {t0 : Tok} {cvs : List Value} {nc : Nat} (hH : StoreAt st sy hp J H) (hS : SymAt w sy σ S) (hz : hp.length < 80000) (hc : CellsV J cvs cts) (hl0 : 0 < cts.length) (hl1 : cts.length < 900) (hle : ces.length = cts.length)
    (hde : ∀ (i : Nat) ct ce, cts[i]? = some ct → ces[i]? = some ce → (∃ q, Der hp q ct ce) ∧ ce.1 ≠ 1) (h0 : 0 < f) (hfz : f < 100000) (hf : σ.funs[f.toNat]? = some (fa, (cts.length : Int))) :
    Tells w 384 [.ref st, .int f t0, .ref ca] 4 (H ++ (S ++ (J ++ ([(ca, listOf cvs.toArray nc)] ++ R)))) (newstr_R st sy hp ces S J R f) NoErr := by
  refine hidE ?_; simp (disch := k_dflt (
    refine hidW ?_
    intro dp un gd cn cs L a ccd cl outer A₀ base h₀ p loose mean mg mb m s Q E B F X N T hk dm hd hu hret hthr
    dsimp only [List.cons_append, List.nil_append] at N dm
    refine store_inst hH ?_; intro dst hl stk trl h1 h2 h3 h4 h5 h6 h7 k1 k2 k3 k4 k5 k6 k7 u1 u2 u3 vs n hI1 hI2 hI3 hV
    have hcl := hc.1
    have hcl0 : (cvs.length : Int) ≠ 0 := by walk_at "ar"
    rename Option (List Code) => gd48Z; (k_with "ar2" => guard_hyp gd48Z; first | with_reducible exact om3 hpz | with_reducible exact om4 hz hl1 hle hVl | with_reducible exact om5 hle hvl | with_reducible exact om7 hle hvl hi9 | with_reducible exact om8 hpz | with_reducible exact om9 hle hvl | with_reducible exact om11 hl1 hle | with_reducible exact om13 hcl hi9 | with_reducible exact om15 hle hvl hpz hi9 hVl | with_reducible exact om16 hpz hpz0 | with_reducible exact om19 hle hvl hi9 | with_reducible exact om19 hle hcl hi9 | with_reducible exact op49 hl0 hcl)
    refine sym_inst hS ?_; intro _ _ _ _ _ _ _ _ _ _ _ _ _ hi1 hi2
    (revert X; k_fill; intro X; refine wpAny_call ?_; k_dflt ktr_enter; walk_at "loc"; refine genT ?_; intro tk9)
    walk_at "st9"
    k_dflt (refine' iter_led (J := fun i m led => m (Str.ofString "self") = some (.ref st) ∧ m (Str.ofString "f") = some (.int f t0) ∧ ∃ va, m (Str.ofString "values") = some (.ref va) ∧ ∃ vv nv, CellsV J vv (ces.take i) ∧ led = (va, listOf vv.toArray nv) :: (H ++ (S ++ (J ++ (ca, listOf cvs.toArray nc) :: R)))) ?hh71 ?F71 ?N71 ?D71 ?hlo71 (.inl rfl) ?hj71 ?hJl71 (fun i v m₁ led₁ h tk I io hv hJ F1 N1 D1 hio => genK fun K9 hK9 => ?_) (fun m₁ led₁ h tk hJ F1 N1 D1 => ?_))
    (case hh71 => exact rfl)
    (case F71 => k_asm)
    (case N71 => k_asm)
    (case D71 => first | assumption | walk_at "dm")
    (case hlo71 => k_mem)
    (case hj71 => exact ⟨by first | rfl | assumption, by first | rfl | assumption, _, by first | rfl | assumption, [], _, CellsV.nil, rfl⟩)
    (case hJl71 =>
      intro i m led hJ
      (refine Gen fun gG9 gK9 => ?_; obtain ⟨_, _, _, _, _, _, _, e⟩ := hJ; refine gK9 ?_; clear gK9 gG9)
      rw [e]; k_mem)
    · (refine Gen fun gG9 gK9 => ?_; obtain ⟨hm1, hm2, va, hm3, vv, nv, hvv, rfl⟩ := hJ; refine gK9 ?_; clear gK9 gG9)
      have hi9 : i < cvs.length := (List.getElem?_eq_some_iff.mp hv).1
      (refine Gen fun gG9 gK9 => ?_; obtain ⟨ct, hct⟩ : ∃ ct, cts[i]? = some ct := ⟨_, List.getElem?_eq_getElem (by walk_at "ar")⟩; refine gK9 ?_; clear gK9 gG9)
      (refine Gen fun gG9 gK9 => ?_; obtain ⟨ce, hce⟩ : ∃ ce, ces[i]? = some ce := ⟨_, List.getElem?_eq_getElem (by walk_at "ar")⟩; refine gK9 ?_; clear gK9 gG9)
      (refine Gen fun gG9 gK9 => ?_; obtain ⟨⟨q9, hq9⟩, hne9⟩ := hde i ct ce hct hce; refine gK9 ?_; clear gK9 gG9)
      (refine Gen fun gG9 gK9 => ?_; obtain ⟨a9, hva, hc9⟩ := hc.2 i ct hct; refine gK9 ?_; clear gK9 gG9)
      rw [hv] at hva
      cases hva
      have hI9 := ap_list (D1.cons_of.1 _ (.head _)) hio ncl
      have hvl : vv.length < 1000 := by rw [hvv.1, List.length_take]; walk_at "ar"
      k_with "mine call" => guard_hyp gd48Z; (k_dflt (refine' go2n (e := globalise_R_pt) (globalise_tells hH hc9 (by walk_at "ar") hq9 hne9) ?B284 ?F284 ?X284 ?N284 ?T284 ?hk284 ?d284 ?r284 ?rr284 ?hd284 ?hu284 ?_; (case B284 => k_asm); (case F284 => k_asm); (case X284 => k_asm); (case N284 => k_asm); (case T284 => k_asm); (case hk284 => first | exact rfl | assumption); (case d284 => walk_at "dmx"); (case r284 => walk_at "rot"); (case rr284 => walk_at "rot"); (case hd284 => walk_at "hdx"); (case hu284 => walk_at "hux"); intro a8 hc8 h9 tk9 F9 N9 D9; (try k_sweep); (try dsimp only)))
      k_sweep
      walk_at "st9"
      (refine hK9 _ _ ?_; refine' TurnQ.rot4 (P := [(va, _)]) (P2 := H) (P3 := S) ?F285 ?N285 ?D285 ?r285 ?ra285 ?rb285 ?rc285 ?J; (case F285 => k_asm); (case N285 => k_asm); (case D285 => walk_at "dm"); (case r285 => walk_at "rot"); (case ra285 => walk_at "rot"); (case rb285 => walk_at "rot"); (case rc285 => walk_at "rot"))
      (case J => exact ⟨hm1, hm2, va, hm3, _, _, hvv.snoc hce hc8, rfl⟩)
    · (refine Gen fun gG9 gK9 => ?_; obtain ⟨hm1, hm2, va, hm3, vv, nv, hvv, rfl⟩ := hJ; refine gK9 ?_; clear gK9 gG9)
      have hvl := hvv.1
      rw [List.length_take, hcl, hle, Nat.min_self] at hvl
      k_with "mine call" => guard_hyp gd48Z; first
        | k_dflt (refine' go3n (e := newblk_R_pt) (newblk_tells (k := cts.length) hH hS (by walk_at "ar") (by walk_at "ar") h0 hfz hf) ?B286 ?F286 ?X286 ?N286 ?T286 ?hk286 ?d286 ?r286 ?rr286 ?rrr286 ?hd286 ?hu286 ?_; (case B286 => k_asm); (case F286 => k_asm); (case X286 => k_asm); (case N286 => k_asm); (case T286 => k_asm); (case hk286 => first | exact rfl | assumption); (case d286 => walk_at "dmx"); (case r286 => walk_at "rot"); (case rr286 => walk_at "rot"); (case rrr286 => walk_at "rot"); (case hd286 => walk_at "hdx"); (case hu286 => walk_at "hux"); intro Jn9 H9 c9 hJ9 hc9 hH9 h9 tk9 F9 N9 D9; refine store_inst hH9 ?_; intro dst hl stk trl h1 h2 h3 h4 h5 h6 h7 k1 k2 k3 k4 k5 k6 k7 u1 u2 u3 vs n hI1 hI2 hI3 hV; (try k_sweep); (try dsimp only))
        | k_dflt (refine' go2n (e := base2_R_pt) (base2_tells hH9 hc9) ?B287 ?F287 ?X287 ?N287 ?T287 ?hk287 ?d287 ?r287 ?rr287 ?hd287 ?hu287 ?_; (case B287 => k_asm); (case F287 => k_asm); (case X287 => k_asm); (case N287 => k_asm); (case T287 => k_asm); (case hk287 => first | exact rfl | assumption); (case d287 => walk_at "dmx"); (case r287 => walk_at "rot"); (case rr287 => walk_at "rot"); (case hd287 => walk_at "hdx"); (case hu287 => walk_at "hux"); intro u9 h9 tk9 F9 N9 D9; (try k_sweep); (try dsimp only))
      k_sweep
      walk_at "st9"
      have hH9' : StoreAt st sy (hp ++ (6, f) :: zs (hp.length + 1) ces.length) (Jn9 ++ J) H9 := by rw [hle]; exact hH9
      rw [hcl, ← hle, List.take_length] at hvv
      k_dflt (refine' iter_led (J := fun i m led => m (Str.ofString "self") = some (.ref st) ∧ m (Str.ofString "made") = some (.ref c9) ∧ (∃ pz u, m (Str.ofString "place") = some (.int pz u) ∧ pz = (hp.length : Int) + 1 + (i : Int)) ∧
        ∃ H2, StoreAt st sy (hp ++ (6, f) :: (ces.take i ++ zs (hp.length + 1 + i) (ces.length - i))) (Jn9 ++ J) H2 ∧ led = H2 ++ (Jn9 ++ J ++ (S ++ (va, listOf vv.toArray nv) :: (ca, listOf cvs.toArray nc) :: R))) ?hh288 ?F288 ?N288 ?D288 ?hlo288 (.inl rfl) ?hj ?hJl (fun i v m₁ led₁ h tk I io hv hJ F1 N1 D1 hio => genK fun K9 hK9 => ?_) (fun m₁ led₁ h tk hJ F1 N1 D1 => ?_); (case hh288 => exact rfl); (case F288 => k_asm); (case N288 => k_asm); (case D288 => walk_at "dm"); (case hlo288 => k_mem))
      (case hj => exact ⟨hm1, by first | rfl | assumption, ⟨_, _, by first | rfl | assumption, by simp⟩, _, hH9', rfl⟩)
      (case hJl =>
        intro i m led hJ
        (refine Gen fun gG9 gK9 => ?_; obtain ⟨_, _, _, _, _, e⟩ := hJ; refine gK9 ?_; clear gK9 gG9)
        rw [e]; k_mem)
      · (refine Gen fun gG9 gK9 => ?_; obtain ⟨hm1, hm2, ⟨pz, u8, hm3, hpz⟩, H2, hH2, rfl⟩ := hJ; refine gK9 ?_; clear gK9 gG9)
        have hi9 : i < vv.length := (List.getElem?_eq_some_iff.mp hv).1
        (refine Gen fun gG9 gK9 => ?_; obtain ⟨ce, hce⟩ : ∃ ce, ces[i]? = some ce := ⟨_, List.getElem?_eq_getElem (by walk_at "ar")⟩; refine gK9 ?_; clear gK9 gG9)
        (refine Gen fun gG9 gK9 => ?_; obtain ⟨a9, hva, hc8⟩ := hvv.2 i ce hce; refine gK9 ?_; clear gK9 gG9)
        rw [hv] at hva
        cases hva
        refine store_open hH2 ?_; rintro dst hl stk trl h1 h2 h3 h4 h5 h6 h7 k1 k2 k3 k4 k5 k6 k7 u1 u2 u3 vs n rfl hV
        have hVl : vs.length = hp.length + 1 + ces.length := by
          rw [hV.1]; simp only [List.length_append, List.length_cons, zs_len, List.length_take]; walk_at "ar"
        have hI9 := ap_list (D1.cons_of.1 _ (.head _)) hio ncl
        dsimp only [List.cons_append, List.nil_append] at N1 D1
        have hpz0 : 0 ≤ pz := by walk_at "ar"
        have hpz1 : pz < (vs.length : Int) := by walk_at "ar"
        k_sweep
        walk_at "st9"
        (refine hK9 _ _ ?_; refine' TurnQ.rot2 (P := [(hl, _), (st, _), (dst, _), (stk, _), (trl, _)]) ?F289 ?N289 ?D289 ?r289 ?ra289 ?J; (case F289 => k_asm); (case N289 => k_asm); (case D289 => walk_at "dm"); (case r289 => walk_at "rot"); (case ra289 => walk_at "rot"))
        (case J =>
          refine ⟨hm1, hm2, ⟨_, _, by first | rfl | assumption, by walk_at "ar"⟩, _, (store_mk (?_)), rfl⟩
          rw [← set_turn hce, show pz.toNat = hp.length + 1 + i by walk_at "ar"]
          exact hV.set (hc8.mono fun _ h => List.mem_append_right _ h))
      · (refine Gen fun gG9 gK9 => ?_; obtain ⟨hm1, hm2, ⟨pz, u8, hm3, hpz⟩, H2, hH2, rfl⟩ := hJ; refine gK9 ?_; clear gK9 gG9)
        k_sweep
        walk_at "st9"
        refine' out3D (P := H2) (P2 := S) (P3 := Jn9 ++ J) (R := R) hret ?F290 ?N290 ?D290 ?r290 ?rr290 ?rrr290 ?rrrr290 ?P; (case F290 => k_asm); (case N290 => k_asm); (case D290 => walk_at "dm"); (case r290 => walk_at "rot"); (case rr290 => walk_at "rot"); (case rrr290 => walk_at "rot"); (case rrrr290 => walk_at "rot")
        (case P =>
          rw [List.take_of_length_le (by walk_at "ar"), show ces.length - vv.length = 0 by walk_at "ar"] at hH2
          exact ⟨Jn9, H2, c9, hJ9, rfl, hc9, by simpa [zs] using hH2, rfl⟩))) only [↓hidL]
end Mine
namespace Mine
open PySem PySem.Calls PyProof.Rows PySem.Spec
/-- the cell leads to the term; the list: where its functors lie -/
inductive Lies (hp : List (Int × Int)) : Int × Int → Tm → List Nat → Prop
  | num {i} : Lies hp (5, i) (.num i) []
  | at {n} : Lies hp (4, n) (.at n) []
  | var {p : Nat} : hp[p]? = some (0, (p : Int)) → Lies hp (0, (p : Int)) .var []
  | s1 {a : Nat} {f c x as} : hp[a]? = some (6, f) → hp[a + 1]? = some c → Lies hp c x as → Lies hp (2, (a : Int)) (.s1 f x) (a :: as)
  | s2 {a : Nat} {f c d x y as bs} : hp[a]? = some (6, f) → hp[a + 1]? = some c → hp[a + 2]? = some d → Lies hp c x as → Lies hp d y bs → Lies hp (2, (a : Int)) (.s2 f x y) (a :: (as ++ bs))
/-- what a cell that leads to a functor's term says -/
def LiesF (hp : List (Int × Int)) (c : Int × Int) (as : List Nat) : Tm → Prop
  | .s1 f x => ∃ (a : Nat) (d : Int × Int) (bs : List Nat), c = (2, (a : Int)) ∧ as = a :: bs ∧ hp[a]? = some (6, f) ∧ hp[a + 1]? = some d ∧ Lies hp d x bs
  | .s2 f x y => ∃ (a : Nat) (d e : Int × Int) (bs cs : List Nat), c = (2, (a : Int)) ∧ as = a :: (bs ++ cs) ∧ hp[a]? = some (6, f) ∧ hp[a + 1]? = some d ∧ hp[a + 2]? = some e ∧ Lies hp d x bs ∧ Lies hp e y cs
  | .num i => c = (5, i)
  | .at n => c = (4, n)
  | .var => ∃ p : Nat, c = (0, (p : Int)) ∧ hp[p]? = some (0, (p : Int))
theorem Lies.fn {hp : List (Int × Int)} {c : Int × Int} {t : Tm} {as : List Nat} (h : Lies hp c t as) : LiesF hp c as t := by
  induction h with
  | num => rfl
  | «at» => rfl
  | var h => exact ⟨_, rfl, h⟩
  | s1 h1 h2 h3 _ => exact ⟨_, _, _, rfl, rfl, h1, h2, h3⟩
  | s2 h1 h2 h3 h4 h5 _ _ => exact ⟨_, _, _, _, _, rfl, rfl, h1, h2, h3, h4, h5⟩
theorem get_app {hp e : List (Int × Int)} {i : Nat} {c : Int × Int} (h : hp[i]? = some c) : (hp ++ e)[i]? = some c := by
  rw [List.getElem?_append_left (List.getElem?_eq_some_iff.mp h).1]; exact h
/-- what is still to be written: a place and a term -/
abbrev Pend := List (Nat × Tm)
inductive Fulf (hp : List (Int × Int)) : Pend → List Nat → Prop
  | nil : Fulf hp [] []
  | cons {p t r c as bs} : hp[p]? = some c → Lies hp c t as → Fulf hp r bs → Fulf hp ((p, t) :: r) (as ++ bs)
theorem Fulf.split {hp : List (Int × Int)} : ∀ {r n : Pend} {bs : List Nat}, Fulf hp (r ++ n) bs → ∃ b1 b2, bs = b1 ++ b2 ∧ Fulf hp r b1 ∧ Fulf hp n b2
  | [], n, bs, h => ⟨[], bs, rfl, .nil, h⟩
  | x :: r, n, _, .cons (as := as) h1 h2 h3 => by
    obtain ⟨b1, b2, rfl, g1, g2⟩ := Fulf.split h3
    exact ⟨as ++ b1, b2, by rw [List.append_assoc], .cons h1 h2 g1, g2⟩
noncomputable def wt (l : Pend) : Nat := (l.map fun x => x.2.size).sum
theorem wt_cons {p : Nat} {t : Tm} {r : Pend} : wt ((p, t) :: r) = t.size + wt r := rfl
theorem wt_app {a b : Pend} : wt (a ++ b) = wt a + wt b := by unfold wt; simp
/-- the heap on the way: what is written will stand, and what is to be written is free -/
structure Way (hp0 : List (Int × Int)) (c0 : Int × Int) (t0 : Tm) (B : Nat) (hp : List (Int × Int)) (pend : Pend) (tbl : Option Nat) : Prop where
  leads : ∀ (hF : List (Int × Int)) (bs : List Nat), (∀ q, q < hp.length → q ∉ pend.map (·.1) → hF[q]? = hp[q]?) → bs.Nodup → (∀ b ∈ bs, hp.length ≤ b) → Fulf hF pend bs → ∃ as, Lies hF c0 t0 as ∧ as.Nodup ∧ ∀ a ∈ as, hp0.length ≤ a
  nodup : (pend.map (·.1)).Nodup
  free : ∀ x ∈ pend, hp[x.1]? = some (0, (x.1 : Int)) ∧ hp0.length ≤ x.1
  tab : ∀ p, tbl = some p → hp[p]? = some (0, (p : Int)) ∧ p ∉ pend.map (·.1)
  pre : ∃ ext, hp = hp0 ++ ext
  room : hp.length + 3 * wt pend ≤ B
section
variable {hp0 hp : List (Int × Int)} {c0 c : Int × Int} {t0 t x y : Tm} {B p : Nat} {pend r : Pend} {tbl : Option Nat} {f : Int}
theorem Way.done (h : Way hp0 c0 t0 B hp [] tbl) : ∃ as ext, Lies hp c0 t0 as ∧ as.Nodup ∧ (∀ a ∈ as, hp0.length ≤ a) ∧ hp = hp0 ++ ext ∧ hp.length ≤ B := by
  obtain ⟨as, h1, h2, h3⟩ := h.leads hp [] (fun _ _ _ => rfl) List.nodup_nil (fun _ h => nomatch h) .nil
  obtain ⟨ext, e⟩ := h.pre
  exact ⟨as, ext, h1, h2, h3, e, by have := h.room; (first | with_reducible exact om55 this | omega)⟩
theorem Way.lt (h : Way hp0 c0 t0 B hp pend tbl) {z : Nat × Tm} (hz : z ∈ pend) : z.1 < hp.length := (List.getElem?_eq_some_iff.mp (h.free z hz).1).1
theorem Way.split (h : Way hp0 c0 t0 B hp ((p, t) :: r) tbl) : p ∉ r.map (·.1) ∧ (r.map (·.1)).Nodup ∧ p < hp.length := by
  have n := h.nodup
  rw [List.map_cons, List.nodup_cons] at n
  exact ⟨n.1, n.2, h.lt (.head _)⟩
theorem Way.pre_set (h : Way hp0 c0 t0 B hp ((p, t) :: r) tbl) {e : List (Int × Int)} : ∃ ext, (hp ++ e).set p c = hp0 ++ ext := by
  obtain ⟨ext, rfl⟩ := h.pre
  have := (h.free _ (.head _)).2
  exact ⟨(ext ++ e).set (p - hp0.length) c, by rw [List.append_assoc, List.set_append_right _ _ this]⟩
/-- a leaf is written: a number, an atom or a known variable -/
theorem Way.leaf (h : Way hp0 c0 t0 B hp ((p, t) :: r) tbl) (hc : ∀ hF, (∀ q, tbl = some q → hF[q]? = some (0, (q : Int))) → Lies hF c t []) (h1 : 1 ≤ t.size) : Way hp0 c0 t0 B (hp.set p c) r tbl := by
  obtain ⟨hp1, hp2, hp3⟩ := h.split
  refine ⟨fun hF bs ag nd ge fu => ?_, hp2, fun z hz => ?_, fun q hq => ?_, ?_, ?_⟩
  · rw [List.length_set] at ag ge
    have hpF : hF[p]? = some c := by rw [ag p hp3 hp1, List.getElem?_set_self hp3]
    have agr : ∀ q, q < hp.length → q ∉ ((p, t) :: r).map (·.1) → hF[q]? = hp[q]? := fun q hq hn => by
      rw [List.map_cons, List.mem_cons, not_or] at hn
      rw [ag q hq hn.2, List.getElem?_set_ne (Ne.symm hn.1)]
    have htab : ∀ q, tbl = some q → hF[q]? = some (0, (q : Int)) := fun q hq => by
      obtain ⟨g1, g2⟩ := h.tab q hq
      rw [agr q (List.getElem?_eq_some_iff.mp g1).1 g2]; exact g1
    exact h.leads hF bs agr nd ge (.cons (as := []) hpF (hc hF htab) fu)
  · obtain ⟨g1, g2⟩ := h.free z (.tail _ hz)
    have : p ≠ z.1 := fun e => hp1 (e ▸ List.mem_map_of_mem hz)
    exact ⟨by rw [List.getElem?_set_ne this]; exact g1, g2⟩
  · obtain ⟨g1, g2⟩ := h.tab q hq
    rw [List.map_cons, List.mem_cons, not_or] at g2
    exact ⟨by rw [List.getElem?_set_ne (Ne.symm g2.1)]; exact g1, g2.2⟩
  · have := h.pre_set (c := c) (e := [])
    rwa [List.append_nil] at this
  · have := h.room
    rw [wt_cons] at this
    rw [List.length_set]; (first | with_reducible exact om58 h1 this | omega)
/-- the first variable: its place is its cell -/
theorem Way.var (h : Way hp0 c0 t0 B hp ((p, .var) :: r) none) : Way hp0 c0 t0 B hp r (some p) := by
  obtain ⟨hp1, hp2, hp3⟩ := h.split
  refine ⟨fun hF bs ag nd ge fu => ?_, hp2, fun z hz => h.free z (.tail _ hz), fun q hq => ?_, h.pre, ?_⟩
  · have hpF : hF[p]? = some (0, (p : Int)) := by rw [ag p hp3 hp1]; exact (h.free _ (.head _)).1
    exact h.leads hF bs (fun q hq hn => by rw [List.map_cons, List.mem_cons, not_or] at hn; exact ag q hq hn.2) nd ge (.cons (as := []) hpF (.var hpF) fu)
  · cases hq; exact ⟨(h.free _ (.head _)).1, hp1⟩
  · have := h.room
    rw [wt_cons] at this
    have h1 : Tm.size .var = 1 := rfl
    (first | with_reducible exact om73 this h1 | omega)
theorem zs_get {n k j : Nat} (h : j < k) : (zs n k)[j]? = some (0, (n : Int) + j) := by
  unfold zs; simp [h]
end
end Mine
namespace Mine
open PySem PySem.Calls PyProof.Rows PySem.Spec
theorem dict_form {prog : Program} {w : World} {K : Type} [DecidableEq K] {knd : KeyKind prog w K} {o : Obj} {kvs : List (K × Value)} (hd : o.IsDictOf knd kvs) : ∃ es n, o = dictOf es n := by
  obtain ⟨es, ep, ⟨c1, c2, c3⟩, hdat, _, hp, _⟩ := hd
  obtain ⟨oc, od, oda, osl⟩ := o
  dsimp only at c1 c2 c3 hdat
  subst c1 c2 c3 hdat
  exact ⟨es.toList, ep, by simp⟩
theorem dset_int {prog : Program} {w : World} {A : Around} {E : Value → Shared → Prop} {s : Shared} {h₀ : Heap} {L d : Addr} {m : Str → Option Value} {news : Led} {g : Obj → Led} {es : List DictEntry} {n : Nat} {kvs : List (Int × Value)} {k : Int} {t : Tok} {v : Value} {Q : Unit → Shared → Prop} (F : Fr h₀ L s.heap m) (N : News h₀ L s.heap news) (U : UpdF d (dictOf es n) news g) (hd : (dictOf es n).IsDictOf (intKind prog w) kvs) (hz : kvs.length ≤ 100000)
    (h : ∀ h' es' n', Fr h₀ L h' m → News h₀ L h' (g (dictOf es' n')) → (dictOf es' n').IsDictOf (intKind prog w) (stored kvs k v) → Q () { s with heap := h', toks := s.toks + 1 }) : wpAny (model prog w) A (setItem (.ref d) (.int k t) v) Q E s :=
  dset_of (intKind_is _ _ _ _) F N U hd hz fun h' o' F' N' hd' _ => by
    obtain ⟨es', n', rfl⟩ := dict_form hd'
    exact h h' es' n' F' N' hd'
theorem din_int {prog : Program} {w : World} {A : Around} {E : Value → Shared → Prop} {s : Shared} {h₀ : Heap} {L d : Addr} {news : Led} {o : Obj} {kvs : List (Int × Value)} {k : Int} {t : Tok} {Q : Value → Shared → Prop} (b : Bool) (N : News h₀ L s.heap news) (hp : (d, o) ∈ news) (hd : o.IsDictOf (intKind prog w) kvs) (lo : (d == sysModules) = false) (hb : (valueAt kvs k).isSome = b) (h : Q (.bool b) { s with toks := s.toks + 1 }) :
    wpAny (model prog w) A (compareOp .In (.int k t) (.ref d)) Q E s := kda_in N hp hd lo (intKind_is _ _ _ _) b hb h
theorem ditem_int {prog : Program} {w : World} {A : Around} {E : Value → Shared → Prop} {s : Shared} {h₀ : Heap} {L d : Addr} {news : Led} {o : Obj} {kvs : List (Int × Value)} {k : Int} {t : Tok} {v : Value} {value slice : PySem.Expr} {Q : Value → Shared → Prop} (N : News h₀ L s.heap news) (hp : (d, o) ∈ news) (hd : o.IsDictOf (intKind prog w) kvs) (hl : valueAt kvs k = some v) (h : Q v { s with toks := s.toks + 1 })
    (hs : subscripted slice false (.ref d) (.int k t) = operate [.ref d, .int k t] (getItem (.ref d) (.int k t))) (hg : ∀ r, letTemporaryGo value (.ref d) r = pure ()) :
    wpAny (model prog w) A (subscriptTail value slice (.ref d) (.int k t)) Q E s := kda_item N hp hd (intKind_is _ _ _ _) hl h hs hg
end Mine
theorem Mine.wd80 : True := by
  (k_with "W setItem ref int" => (k_here; k_dflt (refine' Mine.dset_int ?FW80 ?NW80 ?UW80 ?dW80 ?zW80 ?_; (case FW80 => k_asm); (case NW80 => k_asm); (case UW80 => k_updF); (case dW80 => assumption); (case zW80 => first | assumption | walk_at "ar" | (simp only [List.length_nil]; walk_at "ar") | decide); k_whole); intro hZ9 esZ9 nZ9 FZ9 NZ9 hdZ9; (try dsimp only at NZ9); (try k_sweep)))
  (k_with "W compareOp In int ref" => (k_here; (with_reducible show wpAny _ _ (compareOp CmpOp.In (Value.int _ _) (Value.ref _)) _ _ _); k_dflt (first
  | (refine' Mine.din_int true ?NW81 ?mW81 ?dW81 ?loW81 ?bW81 ?_; (case NW81 => k_asm); (case mW81 => k_mem); (case dW81 => assumption); (case loW81 => assumption); (case bW81 => first | with_reducible assumption | rfl); k_whole)
  | (refine' Mine.din_int false ?NW81 ?mW81 ?dW81 ?loW81 ?bW81 ?_; (case NW81 => k_asm); (case mW81 => k_mem); (case dW81 => assumption); (case loW81 => assumption); (case bW81 => first | with_reducible assumption | rfl); k_whole))))
  (k_with "W subscriptTail" => (k_here; (with_reducible show wpAny _ _ (subscriptTail _ _ (Value.ref _) (Value.int _ _)) _ _ _); (with_unfolding_all (refine' Mine.ditem_int ?NW82 ?hW82 ?dW82 ?xW82 ?_ ?sW82 ?gW82; (case NW82 => k_asm); (case hW82 => k_mem); (case dW82 => assumption); (case xW82 => first | with_reducible assumption | rfl); (case sW82 => with_unfolding_all rfl); (case gW82 => intro _; with_unfolding_all rfl); k_whole))))
  trivial
namespace Mine
open PySem PySem.Calls PyProof.Rows PySem.Spec
inductive IsStr : Tm → Int → List Tm → Prop
  | s1 {f a} : IsStr (.s1 f a) f [a]
  | s2 {f a b} : IsStr (.s2 f a b) f [a, b]
noncomputable def flat (p : Nat) : List Tm → Pend
  | [] => []
  | t :: ts => (p, t) :: flat (p + 1) ts
theorem flat_lt : ∀ {ts : List Tm} {p : Nat} {z : Nat × Tm}, z ∈ flat p ts → p ≤ z.1 ∧ z.1 < p + ts.length
  | [], _, _, h => nomatch h
  | _ :: ts, p, z, h => (List.mem_cons.mp h).elim (fun e => e ▸ ⟨Nat.le_refl _, Nat.lt_add_of_pos_right (Nat.succ_pos _)⟩) fun h => ⟨Nat.le_of_succ_le (flat_lt h).1, Nat.lt_of_lt_of_eq (flat_lt h).2 (by rw [List.length_cons]; (first | with_reducible exact on31 | omega))⟩
theorem flat_nd : ∀ (ts : List Tm) (p : Nat), ((flat p ts).map (·.1)).Nodup
  | [], _ => .nil
  | _ :: ts, p => List.nodup_cons.mpr ⟨fun m => (List.mem_map.mp m).elim fun _ q => Nat.not_succ_le_self p (Nat.le_trans (flat_lt q.1).1 (Nat.le_of_eq q.2)), flat_nd ts (p + 1)⟩
theorem wt_flat {ts : List Tm} {p : Nat} : wt (flat p ts) = (ts.map Tm.size).sum := by
  induction ts generalizing p with
  | nil => rfl
  | cons t ts ih => show t.size + wt (flat (p + 1) ts) = _; rw [ih]; simp
theorem wt_str {t : Tm} {f : Int} {ts : List Tm} {p : Nat} (h : IsStr t f ts) : wt (flat p ts) + 1 = t.size := by
  rw [wt_flat]
  cases h with
  | s1 => rfl
  | s2 => rfl
theorem str_len {t : Tm} {f : Int} {ts : List Tm} (h : IsStr t f ts) : ts.length ≤ 2 := by
  cases h with
  | s1 => exact Nat.le_succ 1
  | s2 => exact Nat.le_refl 2
def FulfF (hp : List (Int × Int)) (bs : List Nat) : Pend → Prop
  | [] => bs = []
  | (p, t) :: r => ∃ c as cs, bs = as ++ cs ∧ hp[p]? = some c ∧ Lies hp c t as ∧ Fulf hp r cs
theorem Fulf.fn {hp : List (Int × Int)} {l : Pend} {bs : List Nat} (h : Fulf hp l bs) : FulfF hp bs l := by
  induction h with
  | nil => rfl
  | cons h1 h2 h3 _ => exact ⟨_, _, _, rfl, h1, h2, h3⟩
theorem str_lies {hF : List (Int × Int)} {a : Nat} {t : Tm} {f : Int} {ts : List Tm} {as : List Nat} (hs : IsStr t f ts) (ha : hF[a]? = some (6, f)) (h : Fulf hF (flat (a + 1) ts) as) : Lies hF (2, (a : Int)) t (a :: as) := by
  have q := h.fn
  cases hs with
  | s1 =>
    obtain ⟨c, bs, cs, e, g1, g2, g3⟩ := q
    rw [e, show cs = [] from g3.fn, List.append_nil]; exact .s1 ha g1 g2
  | s2 =>
    obtain ⟨c, bs, cs, e, g1, g2, g3⟩ := q
    obtain ⟨d, ds, es, e', g4, g5, g6⟩ := g3.fn
    rw [e, e', show es = [] from g6.fn, List.append_nil]; exact .s2 ha g1 g4 g2 g5
section
variable {hp0 hp : List (Int × Int)} {c0 c : Int × Int} {t0 t : Tm} {B p k : Nat} {r : Pend} {tbl : Option Nat} {f : Int} {ts : List Tm}
theorem blk_len : (hp ++ (6, f) :: zs (hp.length + 1) k).length = hp.length + (k + 1) := by rw [List.length_append, List.length_cons, zs_len]
theorem blk_head : (hp ++ (6, f) :: zs (hp.length + 1) k)[hp.length]? = some (6, f) := by
  rw [List.getElem?_append_right (Nat.le_refl _), Nat.sub_self]; rfl
theorem blk_at {q : Nat} (h : hp.length + 1 ≤ q) (h' : q < hp.length + 1 + k) : (hp ++ (6, f) :: zs (hp.length + 1) k)[q]? = some (0, (q : Int)) := by
  obtain ⟨j, rfl⟩ := Nat.exists_eq_add_of_le h
  rw [List.getElem?_append_right (Nat.le_of_succ_le h), show hp.length + 1 + j - hp.length = j + 1 by (first | with_reducible exact on29 h' | with_reducible exact on32 h | omega), List.getElem?_cons_succ, zs_get (by (first | with_reducible exact on29 h' | with_reducible exact on32 h | omega))]; rfl
theorem way_start (hs : IsStr t f ts) : Way hp (2, (hp.length : Int)) t (hp.length + 3 * t.size) (hp ++ (6, f) :: zs (hp.length + 1) ts.length) (flat (hp.length + 1) ts) none :=
  have ge' : ∀ {a : Nat} {bs : List Nat}, (∀ b ∈ bs, (hp ++ (6, f) :: zs (hp.length + 1) ts.length).length ≤ b) → a ∈ bs → hp.length < a := fun ge m => Nat.lt_of_lt_of_le (Nat.lt_add_of_pos_right (Nat.succ_pos _)) (blk_len ▸ ge _ m)
  ⟨fun hF bs ag nd ge fu => ⟨hp.length :: bs, str_lies hs ((ag _ (by rw [blk_len]; (first | with_reducible exact on28 h1 h2 | with_reducible exact on30 | omega)) fun m => (List.mem_map.mp m).elim fun _ q => Nat.not_succ_le_self _ (Nat.le_trans (flat_lt q.1).1 (Nat.le_of_eq q.2))).trans blk_head) fu, List.nodup_cons.mpr ⟨fun m => Nat.lt_irrefl _ (ge' ge m), nd⟩,
      fun a h => (List.mem_cons.mp h).elim (fun e => Nat.le_of_eq e.symm) fun h => Nat.le_of_lt (ge' ge h)⟩,
    flat_nd _ _, fun z hz => ⟨blk_at (flat_lt hz).1 (flat_lt hz).2, Nat.le_of_succ_le (flat_lt hz).1⟩, fun _ h => (nomatch h), ⟨_, rfl⟩, by
      have h1 := wt_str (p := hp.length + 1) hs
      have h2 := str_len hs
      rw [blk_len]; (first | with_reducible exact on28 h1 h2 | with_reducible exact on30 | omega)⟩
theorem Way.str (h : Way hp0 c0 t0 B hp ((p, t) :: r) tbl) (hs : IsStr t f ts) :
    Way hp0 c0 t0 B ((hp ++ (6, f) :: zs (hp.length + 1) ts.length).set p (2, (hp.length : Int))) (r ++ flat (hp.length + 1) ts) tbl := by
  obtain ⟨hp1, hp2, hp3⟩ := h.split
  have hold : ∀ {q : Nat} {d : Int × Int}, q ≠ p → hp[q]? = some d → ((hp ++ (6, f) :: zs (hp.length + 1) ts.length).set p (2, (hp.length : Int)))[q]? = some d := fun hq hd => (List.getElem?_set_ne (Ne.symm hq)).trans (get_app hd)
  have hrl : ∀ q ∈ r.map (·.1), q < hp.length := fun q hq => (List.mem_map.mp hq).elim fun z hz => hz.2 ▸ h.lt (.tail _ hz.1)
  have hnew : ∀ {q : Nat}, q ∉ r.map (·.1) → q ≤ hp.length → q ∉ (r ++ flat (hp.length + 1) ts).map (·.1) := fun h1 h2 m => by
    rw [List.map_append] at m
    exact (List.mem_append.mp m).elim h1 fun m => (List.mem_map.mp m).elim fun z hz => Nat.not_succ_le_self _ (Nat.le_trans (flat_lt hz.1).1 (hz.2 ▸ h2))
  refine ⟨fun hF bs ag nd ge fu => ?_, ?_, fun z hz => ?_, fun q hq => ?_, h.pre_set, ?_⟩
  · rw [List.length_set, blk_len] at ag ge
    obtain ⟨b1, as, rfl, f1, f2⟩ := fu.split
    have hpF : hF[p]? = some (2, (hp.length : Int)) := (ag p (Nat.lt_add_right _ hp3) (hnew hp1 (Nat.le_of_lt hp3))).trans (List.getElem?_set_self (by rw [blk_len]; exact Nat.lt_add_right _ hp3))
    have haF : hF[hp.length]? = some (6, f) := (ag _ (Nat.lt_add_of_pos_right (Nat.succ_pos _)) (hnew (fun m => Nat.lt_irrefl _ (hrl _ m)) (Nat.le_refl _))).trans ((List.getElem?_set_ne (Nat.ne_of_lt hp3)).trans blk_head)
    have ndp := List.nodup_append.mp nd
    have gt : ∀ b ∈ b1 ++ as, hp.length < b := fun b m => Nat.lt_of_lt_of_le (Nat.lt_add_of_pos_right (Nat.succ_pos _)) (ge b m)
    refine h.leads hF ((hp.length :: as) ++ b1) (fun q hq hn => ?_) ?_ ?_ (.cons hpF (str_lies hs haF f2) f1)
    · rw [List.map_cons, List.mem_cons, not_or] at hn
      rw [ag q (Nat.lt_add_right _ hq) (hnew hn.2 (Nat.le_of_lt hq)), List.getElem?_set_ne (Ne.symm hn.1), List.getElem?_append_left hq]
    · exact List.nodup_append.mpr ⟨List.nodup_cons.mpr ⟨fun m => Nat.lt_irrefl _ (gt _ (List.mem_append_right _ m)), ndp.2.1⟩, ndp.1, fun u hu v hv => (List.mem_cons.mp hu).elim (fun e => e ▸ Nat.ne_of_lt (gt v (List.mem_append_left _ hv))) fun hu => (ndp.2.2 v hv u hu).symm⟩
    · exact fun b hb => (List.mem_append.mp hb).elim (fun hb => (List.mem_cons.mp hb).elim (fun e => Nat.le_of_eq e.symm) fun hb => Nat.le_of_lt (gt b (List.mem_append_right _ hb))) fun hb => Nat.le_of_lt (gt b (List.mem_append_left _ hb))
  · rw [List.map_append]
    exact List.nodup_append.mpr ⟨hp2, flat_nd _ _, fun u hu v hv e => (List.mem_map.mp hv).elim fun z hz => Nat.lt_irrefl _ (Nat.lt_trans (Nat.lt_of_lt_of_le (Nat.lt_succ_self _) (hz.2 ▸ (flat_lt hz.1).1)) (e ▸ hrl u hu))⟩
  · refine (List.mem_append.mp hz).elim (fun hz => ?_) fun hz => ?_
    · have g := h.free z (.tail _ hz)
      exact ⟨hold (fun e => hp1 (e ▸ List.mem_map_of_mem hz)) g.1, g.2⟩
    · have hzl := flat_lt hz
      refine ⟨(List.getElem?_set_ne (Nat.ne_of_lt (Nat.lt_of_lt_of_le hp3 (Nat.le_of_succ_le hzl.1)))).trans (blk_at hzl.1 hzl.2), ?_⟩
      obtain ⟨ext, e⟩ := h.pre
      refine Nat.le_trans ?_ (Nat.le_of_succ_le hzl.1)
      rw [e, List.length_append]; exact Nat.le_add_right _ _
  · have g := h.tab q hq
    have g2 := g.2
    rw [List.map_cons, List.mem_cons, not_or] at g2
    exact ⟨hold g2.1 g.1, hnew g2.2 (Nat.le_of_lt (List.getElem?_eq_some_iff.mp g.1).1)⟩
  · have h0 := h.room
    have h1 := wt_str (p := hp.length + 1) hs
    have h2 := str_len hs
    rw [wt_cons] at h0
    rw [List.length_set, blk_len, wt_app]; (first | with_reducible exact on27 h0 h1 h2 | omega)
end
def TmsV (J : Led) (vs : List Value) (ts : List Tm) : Prop := vs.length = ts.length ∧ ∀ (i : Nat) (t : Tm), ts[i]? = some t → ∃ v, vs[i]? = some v ∧ TmV J v t
theorem TmsV.mono {J J' : Led} {vs : List Value} {ts : List Tm} (h : TmsV J vs ts) (i : ∀ p ∈ J, p ∈ J') : TmsV J' vs ts := ⟨h.1, fun j t ht => by obtain ⟨v, h1, h2⟩ := h.2 j t ht; exact ⟨v, h1, h2.mono i⟩⟩
theorem str_v {J : Led} {v : Value} {x : Tm} {f : Int} {ts : List Tm} (h : TmV J v x) (hs : IsStr x f ts) {G : Prop} (K : ∀ a b t t' k k' vs, v = .ref a → (a, tupO [.str (Str.ofString "s") t, .int f t', .ref b] k) ∈ J → (b, tupO vs k') ∈ J → TmsV J vs ts → G) : G := by
  have h := h.fn
  cases hs with
  | s1 =>
    exact h _ fun a b t t' k k' u e m m' h => K a b t t' k k' _ e m m' ⟨rfl, atC (P := fun i t => ∃ v, _[i]? = some v ∧ TmV J v t) ⟨_, rfl, h⟩ atN⟩
  | s2 =>
    exact h _ fun a b t t' k k' u u' e m m' h h' => K a b t t' k k' _ e m m' ⟨rfl, atC (P := fun i t => ∃ v, _[i]? = some v ∧ TmV J v t) ⟨_, rfl, h⟩ (atC ⟨_, rfl, h'⟩ atN)⟩
theorem str_good {σ : Sy} {x : Tm} {f : Int} {ts : List Tm} (h : x.Good σ) (hs : IsStr x f ts) {G : Prop} (K : 0 < f → f < 100000 → ∀ fa, σ.funs[f.toNat]? = some (fa, (ts.length : Int)) → (∀ t ∈ ts, t.Good σ) → 0 < ts.length → ts.length < 3 → G) : G := by
  cases hs with
  | s1 => exact h.1.2.2.elim fun a q => q.elim fun _ q => K h.1.1 h.1.2.1 a q.2.2.1 (fun t ht => List.mem_singleton.mp ht ▸ h.2) (Nat.succ_pos 0) (show 1 < 3 by decide)
  | s2 => exact h.1.2.2.elim fun a q => q.elim fun _ q => K h.1.1 h.1.2.1 a q.2.2.1 (fun t ht => (List.mem_cons.mp ht).elim (fun e => e ▸ h.2.1) fun ht => List.mem_singleton.mp ht ▸ h.2.2) (Nat.succ_pos 1) (Nat.lt_succ_self 2)
/-- a leaf, or a functor over parts -/
theorem tm_cases (x : Tm) : (x = .var) ∨ (∃ n, x = .at n) ∨ (∃ i, x = .num i) ∨ ∃ f ts, IsStr x f ts := by
  cases x with
  | var => exact .inl rfl
  | «at» n => exact .inr (.inl ⟨n, rfl⟩)
  | num i => exact .inr (.inr (.inl ⟨i, rfl⟩))
  | s1 f a => exact .inr (.inr (.inr ⟨f, _, .s1⟩))
  | s2 f a b => exact .inr (.inr (.inr ⟨f, _, .s2⟩))
inductive PutRet (w : World) (st sy : Addr) (hp : List (Int × Int)) (S J R : Led) (x : Tm) (r : Value) (led' : Led) : Prop
  | mk : ∀ Jn, ∀ H', ∀ c, ∀ ct, ∀ as, ∀ ext, TupL Jn → r = .ref c → CellIn (Jn ++ J) c ct → StoreAt st sy (hp ++ ext) (Jn ++ J) H' → Lies (hp ++ ext) ct x as → as.Nodup → (hp ++ ext).length ≤ hp.length + 3 * x.size → led' = H' ++ (S ++ ((Jn ++ J) ++ R)) → PutRet w st sy hp S J R x r led'
def PutRet_T (w : World) (st sy : Addr) (hp : List (Int × Int)) (S J R : Led) (x : Tm) (K7 : Value → Led → Prop) : Prop := ∀ Jn, ∀ H', ∀ c, ∀ ct, ∀ as, ∀ ext, TupL Jn → CellIn (Jn ++ J) c ct → StoreAt st sy (hp ++ ext) (Jn ++ J) H' → Lies (hp ++ ext) ct x as → as.Nodup → (hp ++ ext).length ≤ hp.length + 3 * x.size → K7 (.ref c) (H' ++ (S ++ ((Jn ++ J) ++ R)))
theorem PutRet_pt {w : World} {st sy : Addr} {hp : List (Int × Int)} {S J R : Led} {x : Tm} (K7 : Value → Led → Prop) (k7 : PutRet_T w st sy hp S J R x K7) (r : Value) (led' : Led) (h7 : PutRet w st sy hp S J R x r led') : K7 r led' := by
  obtain ⟨_, _, _, _, _, _, a0, a1, a2, a3, a4, a5, a6, a7⟩ := h7
  subst a1
  subst a7
  exact k7 _ _ _ _ _ _ a0 a2 a3 a4 a5 a6
theorem list_nodict {prog : Program} {w : World} {A : Around} {E : Value → Shared → Prop} {s : Shared} {h₀ : Heap} {L d : Addr} {m : Str → Option Value} {news : Led} {o : Obj} {Q : Value → Shared → Prop} (hh : A.handled = none) (F : Fr h₀ L s.heap m) (N : News h₀ L s.heap news) (hp : (d, o) ∈ news) (hd : o.IsDictOf (PySem.intKind prog w) []) (lo : (d == sysModules) = false)
    (h : ∀ (B : Addr) c h' tk, Fr h₀ L h' m → News h₀ L h' ((B, listOf [].toArray c) :: news) → (∀ q ∈ news, q.1 < B) → Q (.ref B) { s with heap := h', toks := tk }) : wpAny (model prog w) A (call (.type "list") [.ref d]) Q E s :=
  by
  obtain ⟨ep, hat⟩ := (kda_dict N hp hd).dictAt
  refine kdl_N (kdl_dict (knd := PySem.intKind prog w) (kvs := []) (ep := ep) lo) hh F N hat (Nat.zero_le _) fun B c h' tk vs F' N' l1 hl hv => ?_
  have e : vs = [] := List.length_eq_zero_iff.mp hl
  subst e
  exact h B c h' tk F' N' l1
theorem iter_none {prog : Program} {w : World} {A : Around} {E : Value → Shared → Prop} {s : Shared} {env : Env} {h₀ : Heap} {x : Str} {body : List Stmt} {Q : Flow → Shared → Prop} {l : Addr} {n : Nat} {m : Str → Option Value} {led : Led} (hh : A.handled = none) (F : Fr h₀ env.locals s.heap m) (N : News h₀ env.locals s.heap led) (dm : Dm led) (hlo : (l, listOf [].toArray n) ∈ led)
    (done : ∀ h tk, Fr h₀ env.locals h m → News h₀ env.locals h led → Q .next { s with heap := h, toks := tk }) :
    wpAny (model prog w) A (pyIter (.ref l)) (fun it s₂ => LoopAtV prog w A h₀ env x body Q E it s₂) E s :=
  iter_led (J := fun _ m' led' => m' = m ∧ led' = led) hh F N dm hlo (.inl rfl) ⟨rfl, rfl⟩ (fun _ _ _ h => h.2 ▸ hlo) (fun i v _ _ _ _ _ _ hv => by simp at hv) fun m₁ led₁ h tk hJ F1 N1 _ => by
    obtain ⟨rfl, rfl⟩ := hJ
    exact done h tk F1 N1
end Mine
theorem Mine.wd83 : True := by
  (k_with "W call type:list" => (k_here; (with_reducible show wpAny _ _ (call (Value.type "list") [Value.ref _]) _ _ _); k_dflt (refine' Mine.list_nodict ?hhW83 ?FW83 ?NW83 ?mW83 ?dW83 ?loW83 ?_; (case hhW83 => exact rfl); (case FW83 => k_asm); (case NW83 => k_asm); (case mW83 => k_mem); (case dW83 => assumption); (case loW83 => assumption); k_whole); intro BZ9 cZ9 hZ9 tkZ9 FZ9 NZ9 l1Z9; (try k_lt l1Z9); (try k_sweep)))
  trivial
namespace Mine
open PySem PySem.Calls PyProof.Rows PySem.Spec
theorem put_leaf {w : World} {st sy c : Addr} {hp : List (Int × Int)} {S J R H : Led} {x : Tm} {i j : Int} {t t' : Tok} {k : Nat} {o : Obj} (hH : StoreAt st sy hp J H) (ho : o = tupO [.int i t, .int j t'] k) (hl : Lies (hp ++ []) (i, j) x []) :
    PutRet w st sy hp S J R x (.ref c) (H ++ (S ++ (((c, o) :: J) ++ R))) := by
  subst ho
  exact ⟨[_], H, c, (i, j), [], [], tupL_cons rfl tupL_nil, rfl, cell_head rfl rfl, by rw [List.append_nil]; exact hH.mono fun _ h => .tail _ h, hl, List.nodup_nil, by simp, rfl⟩
theorem putnum_tells {w : World} {st sy ta : Addr} {es : List DictEntry} {nt : Nat} {hp : List (Int × Int)} {S J H R : Led} {v : Value} {i : Int} (hH : StoreAt st sy hp J H) (hz : hp.length < 80000) (hv : TmV J v (.num i)) (hlo : (ta == sysModules) = false) (hto : (dictOf es nt).IsDictOf (PySem.intKind PG w) []) :
    Tells w 406 [.ref st, v, .ref ta] 3 (H ++ (S ++ (J ++ ([(ta, dictOf es nt)] ++ R)))) (PutRet w st sy hp S J R (.num i)) NoErr := by
  refine hidE ?_; simp (disch := k_dflt (
    refine hidW ?_
    intro dp un gd cn cs L a ccd cl outer A₀ base h₀ p loose mean mg mb m s Q E B F X N T hk dm hd hu hret hthr
    dsimp only [List.cons_append, List.nil_append] at N dm
    refine store_inst hH ?_; intro dst hl stk trl h1 h2 h3 h4 h5 h6 h7 k1 k2 k3 k4 k5 k6 k7 u1 u2 u3 vs n hI1 hI2 hI3 hV
    refine (show TmF _ _ (.num i) from hv.fn) _ ?_; rintro a t t' k rfl hm
    rename Option (List Code) => gd49Z
    (revert X; k_fill; intro X; refine wpAny_call ?_; k_dflt ktr_enter; walk_at "loc"; refine genT ?_; intro tk9)
    walk_at "st9"
    k_dflt (refine' iter_none ?hh ?F ?N ?D ?hlo ?_; (case hh => exact rfl); (case F => k_asm); (case N => k_asm); (case D => walk_at "dm"); (case hlo => k_mem))
    intro h1 tk1 F1 N1
    k_sweep
    walk_at "st9"
    refine' out3D (P := H) (P2 := S) (P3 := (_, _) :: J) (R := R) hret ?F293 ?N293 ?D293 ?r293 ?rr293 ?rrr293 ?rrrr293 ?P; (case F293 => k_asm); (case N293 => k_asm); (case D293 => walk_at "dm"); (case r293 => walk_at "rot"); (case rr293 => walk_at "rot"); (case rrr293 => walk_at "rot"); (case rrrr293 => walk_at "rot")
    (case P => exact put_leaf hH rfl .num))) only [↓hidL]
theorem putat_tells {w : World} {st sy ta : Addr} {es : List DictEntry} {nt : Nat} {hp : List (Int × Int)} {S J H R : Led} {v : Value} {i : Int} (hH : StoreAt st sy hp J H) (hz : hp.length < 80000) (hv : TmV J v (.at i)) (hlo : (ta == sysModules) = false) (hto : (dictOf es nt).IsDictOf (PySem.intKind PG w) []) :
    Tells w 406 [.ref st, v, .ref ta] 3 (H ++ (S ++ (J ++ ([(ta, dictOf es nt)] ++ R)))) (PutRet w st sy hp S J R (.at i)) NoErr := by
  refine hidE ?_; simp (disch := k_dflt (
    refine hidW ?_
    intro dp un gd cn cs L a ccd cl outer A₀ base h₀ p loose mean mg mb m s Q E B F X N T hk dm hd hu hret hthr
    dsimp only [List.cons_append, List.nil_append] at N dm
    refine store_inst hH ?_; intro dst hl stk trl h1 h2 h3 h4 h5 h6 h7 k1 k2 k3 k4 k5 k6 k7 u1 u2 u3 vs n hI1 hI2 hI3 hV
    refine (show TmF _ _ (.at i) from hv.fn) _ ?_; rintro a t t' k rfl hm
    rename Option (List Code) => gd50Z
    (revert X; k_fill; intro X; refine wpAny_call ?_; k_dflt ktr_enter; walk_at "loc"; refine genT ?_; intro tk9)
    walk_at "st9"
    k_dflt (refine' iter_none ?hh ?F ?N ?D ?hlo ?_; (case hh => exact rfl); (case F => k_asm); (case N => k_asm); (case D => walk_at "dm"); (case hlo => k_mem))
    intro h1 tk1 F1 N1
    k_sweep
    walk_at "st9"
    refine' out3D (P := H) (P2 := S) (P3 := (_, _) :: J) (R := R) hret ?F296 ?N296 ?D296 ?r296 ?rr296 ?rrr296 ?rrrr296 ?P; (case F296 => k_asm); (case N296 => k_asm); (case D296 => walk_at "dm"); (case r296 => walk_at "rot"); (case rr296 => walk_at "rot"); (case rrr296 => walk_at "rot"); (case rrrr296 => walk_at "rot")
    (case P => exact put_leaf hH rfl .at))) only [↓hidL]
theorem putvar_tells {w : World} {st sy ta : Addr} {es : List DictEntry} {nt : Nat} {hp : List (Int × Int)} {S J H R : Led} {v : Value} {i : Int} (hH : StoreAt st sy hp J H) (hz : hp.length < 80000) (hv : TmV J v .var) (hlo : (ta == sysModules) = false) (hto : (dictOf es nt).IsDictOf (PySem.intKind PG w) []) :
    Tells w 406 [.ref st, v, .ref ta] 3 (H ++ (S ++ (J ++ ([(ta, dictOf es nt)] ++ R)))) (PutRet w st sy hp S J R .var) NoErr := by
  refine hidE ?_; simp (disch := k_dflt (
    refine hidW ?_
    intro dp un gd cn cs L a ccd cl outer A₀ base h₀ p loose mean mg mb m s Q E B F X N T hk dm hd hu hret hthr
    dsimp only [List.cons_append, List.nil_append] at N dm
    refine store_inst hH ?_; intro dst hl stk trl h1 h2 h3 h4 h5 h6 h7 k1 k2 k3 k4 k5 k6 k7 u1 u2 u3 vs n hI1 hI2 hI3 hV
    refine (show TmF _ _ .var from hv.fn) _ ?_; rintro a t t' k rfl hm
    rename Option (List Code) => gd51Z
    k_with "mine call" => guard_hyp gd51Z; (k_dflt (refine' go2n (e := newvar_R_pt) (newvar_tells hH (by walk_at "ar")) ?B298 ?F298 ?X298 ?N298 ?T298 ?hk298 ?d298 ?r298 ?rr298 ?hd298 ?hu298 ?_; (case B298 => k_asm); (case F298 => k_asm); (case X298 => k_asm); (case N298 => k_asm); (case T298 => k_asm); (case hk298 => first | exact rfl | assumption); (case d298 => walk_at "dmx"); (case r298 => walk_at "rot"); (case rr298 => walk_at "rot"); (case hd298 => walk_at "hdx"); (case hu298 => walk_at "hux"); intro c9 H9 t9 t8 k9 hH9 h9 tk9 F9 N9 D9; (try k_sweep); (try dsimp only)))
    (revert X; k_fill; intro X; refine wpAny_call ?_; k_dflt ktr_enter; walk_at "loc"; refine genT ?_; intro tk9)
    walk_at "st9"
    k_dflt (refine' iter_none ?hh ?F ?N ?D ?hlo ?_; (case hh => exact rfl); (case F => k_asm); (case N => k_asm); (case D => walk_at "dm"); (case hlo => k_mem))
    intro h1 tk1 F1 N1
    k_sweep
    walk_at "st9"
    refine' out3D (P := H9) (P2 := S) (P3 := (c9, _) :: J) (R := R) hret ?F300 ?N300 ?D300 ?r300 ?rr300 ?rrr300 ?rrrr300 ?P; (case F300 => k_asm); (case N300 => k_asm); (case D300 => walk_at "dm"); (case r300 => walk_at "rot"); (case rr300 => walk_at "rot"); (case rrr300 => walk_at "rot"); (case rrrr300 => walk_at "rot")
    (case P => exact ⟨[_], H9, c9, (0, (hp.length : Int)), [], [(0, (hp.length : Int))], tupL_cons rfl tupL_nil, rfl, cell_head rfl rfl, hH9, .var (by simp), List.nodup_nil, (by rw [List.length_append]; exact Nat.add_le_add_left (show 1 ≤ 3 * 1 by decide) _), rfl⟩))) only [↓hidL]
end Mine
theorem Mine.wd84 : True := by
  (k_with "fm" => with_reducible first | exact List.mem_cons_self | (refine' List.mem_cons_of_mem _ ?rrW84; case rrW84 => walk_at "fm") | (refine' List.mem_append_left _ ?rrW84; case rrW84 => walk_at "fm") | (refine' List.mem_append_right _ ?rrW84; case rrW84 => walk_at "fm") | assumption)
  (k_with "W subscriptTail" => (k_here; (with_reducible show wpAny _ _ (subscriptTail _ _ (Value.ref _) (Value.int _ _)) _ _ _); (with_unfolding_all first
  | (refine' Mine.item_led ?NW85 ?hW85 ?xW85 ?loW85 ?hiW85 ?_ ?sW85; (case NW85 => k_asm); (case hW85 => walk_at "fm"); (case xW85 => with_reducible assumption); (case loW85 => with_reducible first | assumption | decide | walk_at "ar"); (case hiW85 => with_reducible first | assumption | decide | walk_at "ar"); (case sW85 => with_unfolding_all rfl); k_whole)
  | (refine' Mine.item_tup ?NW85 ?hW85 ?xW85 ?loW85 ?hiW85 ?_ ?sW85; (case NW85 => k_asm); (case hW85 => walk_at "fm"); (case xW85 => first | with_reducible assumption | rfl); (case loW85 => with_reducible first | assumption | decide | walk_at "ar"); (case hiW85 => with_reducible first | assumption | decide | walk_at "ar"); (case sW85 => with_unfolding_all rfl); k_whole)
  | (refine' Mine.item_led ?NW85 ?hW85 ?xW85 ?loW85 ?hiW85 ?_ ?sW85; (case NW85 => k_asm); (case hW85 => k_mem); (case xW85 => with_reducible assumption); (case loW85 => with_reducible first | assumption | decide | walk_at "ar"); (case hiW85 => with_reducible first | assumption | decide | walk_at "ar"); (case sW85 => with_unfolding_all rfl); k_whole)
  | (refine' Mine.item_tup ?NW85 ?hW85 ?xW85 ?loW85 ?hiW85 ?_ ?sW85; (case NW85 => k_asm); (case hW85 => k_mem); (case xW85 => first | with_reducible assumption | rfl); (case loW85 => with_reducible first | assumption | decide | walk_at "ar"); (case hiW85 => with_reducible first | assumption | decide | walk_at "ar"); (case sW85 => with_unfolding_all rfl); k_whole))))
  (k_with "W subscriptTail Name" => (k_here; (with_reducible show wpAny _ _ (subscriptTail _ _ (Value.ref _) (Value.int _ _)) _ _ _); (with_unfolding_all first
  | (refine' Mine.item_led ?NW86 ?hW86 ?xW86 ?loW86 ?hiW86 ?_ ?sW86; (case NW86 => k_asm); (case hW86 => walk_at "fm"); (case xW86 => with_reducible assumption); (case loW86 => with_reducible first | assumption | decide | walk_at "ar"); (case hiW86 => with_reducible first | assumption | decide | walk_at "ar"); (case sW86 => with_unfolding_all rfl); k_whole)
  | (refine' Mine.item_tup ?NW86 ?hW86 ?xW86 ?loW86 ?hiW86 ?_ ?sW86; (case NW86 => k_asm); (case hW86 => walk_at "fm"); (case xW86 => first | with_reducible assumption | rfl); (case loW86 => with_reducible first | assumption | decide | walk_at "ar"); (case hiW86 => with_reducible first | assumption | decide | walk_at "ar"); (case sW86 => with_unfolding_all rfl); k_whole))))
  trivial
namespace Mine
open PySem PySem.Calls PyProof.Rows PySem.Spec
theorem while_ledR {prog : Program} {w : World} {A : Around} {E : Value → Shared → Prop} {s : Shared} {env : Env} {h₀ : Heap} {Q : Flow → Shared → Prop} {test : Expr} {body : List Stmt} {pos : Pos} {m : Str → Option Value} {led0 P P2 P3 R1 R2 R3 : Led} (J : Nat → (Str → Option Value) → Led → Prop) {n₀ : Nat}
    (F : Fr h₀ env.locals s.heap m) (N : News h₀ env.locals s.heap led0) (dm : Dm led0) (r1 : Rot P led0 R1) (r2 : Rot P2 R1 R2) (r3 : Rot P3 R2 R3) (hJ : J n₀ m (P ++ (P2 ++ (P3 ++ R3))))
    (turn : ∀ n m₁ led₁ h tk, J n m₁ led₁ → Fr h₀ env.locals h m₁ → News h₀ env.locals h led₁ → Dm led₁ →
      wpAny (model prog w) A (isTrue test env (eval test env)) (fun b s₂ =>
        if b = true then wpAny (model prog w) A (execs body env) (TurnW h₀ env.locals { s with heap := h, toks := tk } J Q n) E s₂ else Q .next s₂) E { s with heap := h, toks := tk })
    (hE : PassesOwn (model prog w) A env E := by passes_own) :
    wpAny (model prog w) A (exec (.While test body [] pos) env) Q E s := while_led J F (News.perm (Rot.three r1 r2 r3) N) (Dm.perm (Rot.three r1 r2 r3) dm) hJ turn hE
inductive WaitV (J : Led) (v : Value) (p : Nat) (ts : List Tm) : Prop
  | mk : ∀ wa, ∀ u, ∀ k, ∀ ia, ∀ k', ∀ vs, v = .ref wa → (wa, tupO [.int (p : Int) u, .ref ia] k) ∈ J → (ia, tupO vs k') ∈ J → TmsV J vs ts → WaitV J v p ts
theorem WaitV.mono {J J' : Led} {v : Value} {p : Nat} {ts : List Tm} (h : WaitV J v p ts) (i : ∀ p ∈ J, p ∈ J') : WaitV J' v p ts := by
  obtain ⟨wa, u, k, ia, k', vs, e, m, m', ht⟩ := h
  exact ⟨wa, u, k, ia, k', vs, e, i _ m, i _ m', ht.mono i⟩
def WaitsV (J : Led) (wvs : List Value) (ents : List (Nat × List Tm)) : Prop := wvs.length = ents.length ∧ ∀ (i : Nat) (e : Nat × List Tm), ents[i]? = some e → ∃ v, wvs[i]? = some v ∧ WaitV J v e.1 e.2
theorem WaitsV.mono {J J' : Led} {wvs : List Value} {ents : List (Nat × List Tm)} (h : WaitsV J wvs ents) (i : ∀ p ∈ J, p ∈ J') : WaitsV J' wvs ents := ⟨h.1, fun j e he => by obtain ⟨v, h1, h2⟩ := h.2 j e he; exact ⟨v, h1, h2.mono i⟩⟩
theorem WaitsV.push {J : Led} {wvs : List Value} {ents : List (Nat × List Tm)} {v : Value} {p : Nat} {ts : List Tm} (h : WaitsV J wvs ents) (hv : WaitV J v p ts) : WaitsV J (wvs ++ [v]) (ents ++ [(p, ts)]) := by
  refine ⟨by simp [h.1], fun j e he => ?_⟩
  rcases Nat.lt_or_ge j ents.length with hj | hj
  · rw [List.getElem?_append_left hj] at he
    obtain ⟨b, h1, h2⟩ := h.2 j e he
    exact ⟨b, by rw [List.getElem?_append_left (by rw [h.1]; exact hj)]; exact h1, h2⟩
  · rw [List.getElem?_append_right hj] at he
    have e0 : j - ents.length = 0 := by
      rcases Nat.eq_zero_or_pos (j - ents.length) with h0 | h0
      · exact h0
      · rw [List.getElem?_eq_none (by simp; (first | with_reducible exact om37 h0 | omega))] at he; cases he
    rw [e0] at he
    simp only [List.getElem?_cons_zero, Option.some.injEq] at he
    subst he
    exact ⟨v, by rw [List.getElem?_append_right (by rw [h.1]; exact hj), h.1, e0]; rfl, hv⟩
def TabV (J : Led) (kvs : List (Int × Value)) : Option Nat → Prop
  | none => kvs = []
  | some p => ∃ a, kvs = [(0, .ref a)] ∧ CellIn J a (0, (p : Int))
theorem TabV.mono {J J' : Led} {kvs : List (Int × Value)} {tbl : Option Nat} (h : TabV J kvs tbl) (i : ∀ p ∈ J, p ∈ J') : TabV J' kvs tbl := by
  cases tbl with
  | none => exact h
  | some p => obtain ⟨a, e, h⟩ := h; exact ⟨a, e, h.mono i⟩
noncomputable def fl (ents : List (Nat × List Tm)) : Pend := ents.flatMap fun e => flat e.1 e.2
inductive PutLed (w : World) (st sy : Addr) (S J R : Led) (ta wl lb : Addr) (cb : Nat) (hp' : List (Int × Int)) (Jn : Led) (tbl : Option Nat) (wvs : List Value) (led : Led) : Prop
  | mk : ∀ H', ∀ wn, ∀ es', ∀ nt', ∀ kvs, StoreAt st sy hp' (Jn ++ J) H' → (dictOf es' nt').IsDictOf (PySem.intKind PG w) kvs → TabV (Jn ++ J) kvs tbl → TupL Jn → led = H' ++ (S ++ ((Jn ++ J) ++ ((wl, listOf wvs.toArray wn) :: (lb, listOf [].toArray cb) :: (ta, dictOf es' nt') :: R))) → PutLed w st sy S J R ta wl lb cb hp' Jn tbl wvs led
/-- the state between two turns; pend: what is still to be written -/
inductive PutJ (w : World) (st sy : Addr) (σ : Sy) (S J R : Led) (ta lb mc : Addr) (cb : Nat) (hp : List (Int × Int)) (x : Tm) (at9 : Nat) (pend : Pend) (ents : List (Nat × List Tm)) (Jn : Led) (m : Str → Option Value) (led : Led) : Prop
  | mk : ∀ hp', ∀ tbl, ∀ wvs, ∀ wl, m (Str.ofString "self") = some (.ref st) → m (Str.ofString "table") = some (.ref ta) → m (Str.ofString "made") = some (.ref mc) → m (Str.ofString "waiting") = some (.ref wl) → ((∃ u, m (Str.ofString "at") = some (.int (at9 : Int) u))) → WaitsV (Jn ++ J) wvs ents → at9 ≤ ents.length → Way hp (2, (hp.length : Int)) x (hp.length + 3 * x.size) hp' pend tbl → ((∀ z ∈ pend, z.2.Good σ)) → ((∀ e ∈ ents, e.2 ≠ [])) → wvs.length + wt pend ≤ 1 + x.size → PutLed w st sy S J R ta wl lb cb hp' Jn tbl wvs led → PutJ w st sy σ S J R ta lb mc cb hp x at9 pend ents Jn m led
/-- between two turns of the outer loop -/
inductive PutO (w : World) (st sy : Addr) (σ : Sy) (S J R : Led) (ta mc : Addr) (hp : List (Int × Int)) (x : Tm) (Jn0 : Led) (n9 : Nat) (m : Str → Option Value) (led : Led) : Prop
  | mk : ∀ lb, ∀ cb, ∀ at9, ∀ ents, ∀ Jn, n9 = wt (fl (ents.drop at9)) → ((∀ p ∈ Jn0, p ∈ Jn)) → PutJ w st sy σ S J R ta lb mc cb hp x at9 (fl (ents.drop at9)) ents Jn m led → PutO w st sy σ S J R ta mc hp x Jn0 n9 m led
/-- between two turns of the inner loop -/
inductive PutI (w : World) (st sy : Addr) (σ : Sy) (S J R : Led) (ta lb mc : Addr) (cb : Nat) (hp : List (Int × Int)) (x : Tm) (Jn : Led) (at9 p9 N9 : Nat) (ts9 : List Tm) (i : Nat) (m : Str → Option Value) (led : Led) : Prop
  | mk : ∀ ents', ∀ Jn', ∀ pz, ∀ u, ((∀ p ∈ Jn, p ∈ Jn')) → m (Str.ofString "place") = some (.int pz u) → pz = ((p9 + i : Nat) : Int) → PutJ w st sy σ S J R ta lb mc cb hp x (at9 + 1) (flat (p9 + i) (ts9.drop i) ++ fl (ents'.drop (at9 + 1))) ents' Jn' m led → wt (flat (p9 + i) (ts9.drop i) ++ fl (ents'.drop (at9 + 1))) + i = N9 → PutI w st sy σ S J R ta lb mc cb hp x Jn at9 p9 N9 ts9 i m led
theorem fl_drop {ents : List (Nat × List Tm)} {k : Nat} {e : Nat × List Tm} (h : ents[k]? = some e) : fl (ents.drop k) = flat e.1 e.2 ++ fl (ents.drop (k + 1)) := by
  obtain ⟨hl, hg⟩ := List.getElem?_eq_some_iff.mp h
  unfold fl
  rw [← List.getElem_cons_drop hl, hg]; rfl
theorem flat_drop {ts : List Tm} {i p : Nat} {t : Tm} (h : ts[i]? = some t) : flat (p + i) (ts.drop i) = (p + i, t) :: flat (p + (i + 1)) (ts.drop (i + 1)) := by
  obtain ⟨hl, hg⟩ := List.getElem?_eq_some_iff.mp h
  rw [← List.getElem_cons_drop hl, hg]; rfl
theorem fl_push {ents : List (Nat × List Tm)} {k p : Nat} {ts : List Tm} (h : k ≤ ents.length) : fl ((ents ++ [(p, ts)]).drop k) = fl (ents.drop k) ++ flat p ts := by
  unfold fl
  rw [List.drop_append_of_le_length h, List.flatMap_append]; simp
theorem flat_mem {ts : List Tm} {p : Nat} {z : Nat × Tm} (h : z ∈ flat p ts) : z.2 ∈ ts := by
  induction ts generalizing p with
  | nil => cases h
  | cons t ts ih =>
    rcases List.mem_cons.mp h with rfl | h
    · exact .head _
    · exact .tail _ (ih h)
theorem size_pos : ∀ t : Tm, 1 ≤ t.size
  | .s1 _ _ => Nat.succ_pos _
  | .s2 _ _ _ => Nat.succ_pos _
  | .at _ => Nat.le_refl _
  | .num _ => Nat.le_refl _
  | .var => Nat.le_refl _
theorem put_cases {J : Led} {wvs : List Value} {ents : List (Nat × List Tm)} {at9 : Nat} (hW : WaitsV J wvs ents) (hat : at9 ≤ ents.length) :
    (∃ p ts wa u k ia k' vs, ents[at9]? = some (p, ts) ∧ wvs[(at9 : Int).toNat]? = some (.ref wa) ∧ (wa, tupO [.int (p : Int) u, .ref ia] k) ∈ J ∧ (ia, tupO vs k') ∈ J ∧ TmsV J vs ts ∧ (at9 : Int) < (wvs.length : Int)) ∨ (at9 = ents.length ∧ ¬ (at9 : Int) < (wvs.length : Int)) := by
  have hl := hW.1
  rcases Nat.lt_or_ge at9 ents.length with h | h
  · obtain ⟨v, hv, wa, u, k, ia, k', vs, rfl, m1, m2, ht⟩ := hW.2 at9 _ (List.getElem?_eq_getElem h)
    exact .inl ⟨_, _, wa, u, k, ia, k', vs, List.getElem?_eq_getElem h, hv, m1, m2, ht, by (first | with_reducible exact om23 hl h | with_reducible exact om33 hat h | with_reducible exact om34 hl h | omega)⟩
  · exact .inr ⟨by (first | with_reducible exact om23 hl h | with_reducible exact om33 hat h | with_reducible exact om34 hl h | omega), by (first | with_reducible exact om23 hl h | with_reducible exact om33 hat h | with_reducible exact om34 hl h | omega)⟩
theorem app_mono {J Jn Jn' : Led} (h : ∀ p ∈ Jn, p ∈ Jn') : ∀ p ∈ Jn ++ J, p ∈ Jn' ++ J := fun p hp => (List.mem_append.mp hp).elim (fun q => List.mem_append_left _ (h p q)) (fun q => List.mem_append_right _ q)
theorem pL1 {w i T z : Nat} (h : z + w + i = T) (e : z = 1) : w + (i + 1) = T := by (first | with_reducible exact om25 h e | omega)
theorem pL2 {a w N z : Nat} (h : a + (z + w) ≤ N) (e : z = 1) : a + w ≤ N := by (first | with_reducible exact om44 h e | omega)
theorem pL3 {w s i T z : Nat} (h : z + w + i = T) (e : s + 1 = z) : w + s + (i + 1) = T := by (first | with_reducible exact om29 h e | omega)
theorem pL4 {a w s N z : Nat} (h : a + (z + w) ≤ N) (e : s + 1 = z) : a + (0 + 1) + (w + s) ≤ N := by (first | with_reducible exact om43 h e | omega)
theorem pI0 {z : Int} {a : Nat} (e : z = (a : Int)) : 0 ≤ z := by rw [e]; exact Int.natCast_nonneg _
theorem pI1 {z : Int} {a b c : Nat} (e : z = (a : Int)) (h : a < b) (e' : c = b) : z < (c : Int) := by rw [e, e']; exact Int.ofNat_lt.mpr h
theorem pI2 {z : Int} {a : Nat} (e : z = (a : Int)) : z.toNat = a := by rw [e]; rfl
theorem pI3 {z : Int} {a i : Nat} (e : z = ((a + i : Nat) : Int)) : z + 1 = ((a + (i + 1) : Nat) : Int) := by rw [e]; rfl
theorem pI4 {z : Int} {a b c d : Nat} (e : z = (a : Int)) (h : a < b) (e' : c = b + d) : z < (c : Int) := by rw [e, e']; exact Int.ofNat_lt.mpr (Nat.lt_of_lt_of_le h (Nat.le_add_right _ _))
theorem pN1 {a b n s : Nat} (h : a + b ≤ 1 + s) (hz : n + 3 * s < 80000) : a < 100000 := by (first | with_reducible exact om35 h hz | omega)
theorem pN2 {a n s w N : Nat} (h : a + 3 * w ≤ n + 3 * s) (hz : n + 3 * s < 80000) (hN : 80000 ≤ N) : a < N := Nat.lt_of_lt_of_le (Nat.lt_of_le_of_lt (Nat.le_trans (Nat.le_add_right _ _) h) hz) hN
theorem pN3 {a c d n s w N : Nat} (e : c = a + (d + 1)) (hd : d < 3) (h : a + 3 * w ≤ n + 3 * s) (hz : n + 3 * s < 80000) (hN : 80003 ≤ N) : c < N := by (first | with_reducible exact om36 e hd h hz hN | omega)
theorem eN1 {a b c s : Nat} (e : a = b) (h : b + c ≤ 2 * s) (hs : s < 400) : a < 1000000 := by (first | with_reducible exact om27 e h hs | omega)
theorem eN2 {a b c s : Nat} (e : a = b) (h : b + 1 + c ≤ 2 * s) (hs : s < 400) : a < 1000 := by (first | with_reducible exact om38 e h hs | omega)
theorem eN3 {a b c s : Nat} (e : a = b) (h : b + 1 + 1 + c ≤ 2 * s) (hs : s < 400) : a < 1000 := by (first | with_reducible exact om24 e h hs | omega)
theorem eN4 {a : Nat} (h : a < 1000) : a + (0 + 1) < 1000000 := by (first | with_reducible exact om32 h | omega)
theorem eN5 {a b c w v s W : Nat} (e : a = b) (h : b ≤ c) (e' : W = w + c) (hv : v + W ≤ 2 * s) (hs : s < 400) : a < 1000000 := by (first | with_reducible exact om39 e h e' hv hs | omega)
theorem eN6 {w c : Nat} (h : 1 ≤ w) : c < w + c := by (first | with_reducible exact om26 h | omega)
end Mine
theorem Mine.wd87 : True := by
  (k_with "ar" => with_reducible first | exact Mine.pL1 (by assumption) (by assumption) | exact Mine.pL2 (by assumption) (by assumption) | exact Mine.pL3 (by assumption) (by assumption) | exact Mine.pL4 (by assumption) (by assumption) | exact Mine.pI0 (by assumption) | exact Mine.pI1 (by assumption) (by assumption) (by assumption) | exact Mine.pI2 (by assumption) | exact Mine.pI3 (by assumption) | exact Mine.pI4 (by assumption) (by assumption) (by assumption) | exact Nat.lt_of_lt_of_le (Mine.pN1 (by assumption) (by assumption)) (by decide) | exact Mine.pN2 (by assumption) (by assumption) (by decide) | exact Mine.pN3 (by assumption) (by assumption) (by assumption) (by assumption) (by decide) | exact Mine.eN1 (by assumption) (by assumption) (by assumption) | exact Mine.eN2 (by assumption) (by assumption) (by assumption) | exact Mine.eN3 (by assumption) (by assumption) (by assumption) | exact Mine.eN4 (by assumption) | exact Mine.eN5 (by assumption) (by assumption) (by assumption) (by assumption) (by assumption) | exact Mine.eN6 (by assumption) | exact Nat.lt_add_of_pos_right (by assumption))
  trivial
namespace Mine
open PySem PySem.Calls PyProof.Rows PySem.Spec
theorem putstr_tells {w : World} {st sy ta : Addr} {es : List DictEntry} {nt : Nat} {hp : List (Int × Int)} {σ : Sy} {S J H R : Led} {v : Value} {x : Tm} {f : Int} {ts : List Tm} (hH : StoreAt st sy hp J H) (hS : SymAt w sy σ S) (hz : hp.length + 3 * x.size < 80000) (hg : x.Good σ) (hs : IsStr x f ts) (hv : TmV J v x) (hlo : (ta == sysModules) = false) (hto : (dictOf es nt).IsDictOf (PySem.intKind PG w) []) :
    Tells w 406 [.ref st, v, .ref ta] 5 (H ++ (S ++ (J ++ ([(ta, dictOf es nt)] ++ R)))) (PutRet w st sy hp S J R x) NoErr := by
  refine hidE ?_; simp (disch := k_dflt (
    refine hidW ?_
    intro dp un gd cn cs L a ccd cl outer A₀ base h₀ p loose mean mg mb m s Q E B F X N T hk dm hd hu hret hthr
    dsimp only [List.cons_append, List.nil_append] at N dm
    refine store_inst hH ?_; intro dst hl stk trl h1 h2 h3 h4 h5 h6 h7 k1 k2 k3 k4 k5 k6 k7 u1 u2 u3 vs n hI1 hI2 hI3 hV
    refine str_v hv hs ?_; rintro a0 b0 t0 t0' k0 k0' tvs rfl hm1 hm2 htv
    refine str_good hg hs ?_; intro hf0 hfz fa hf hgs hts0 hts3
    have hxs := wt_str (p := hp.length + 1) hs
    rename Option (List Code) => gd52Z; (k_with "ar2" => guard_hyp gd52Z; first | with_reducible exact om28 hxs | with_reducible exact om30 hpz hp9' | with_reducible exact om31 hi9 this | with_reducible exact om6 | with_reducible exact om41 hz | with_reducible exact om42 hwl9 hlt9 | with_reducible exact om45 hat2)
    k_with "mine call" => guard_hyp gd52Z; first
      | k_dflt (refine' go3n (e := newblk_R_pt) (newblk_tells (k := ts.length) hH hS (by walk_at "ar") (by walk_at "ar") hf0 hfz hf) ?B302 ?F302 ?X302 ?N302 ?T302 ?hk302 ?d302 ?r302 ?rr302 ?rrr302 ?hd302 ?hu302 ?_; (case B302 => k_asm); (case F302 => k_asm); (case X302 => k_asm); (case N302 => k_asm); (case T302 => k_asm); (case hk302 => first | exact rfl | assumption); (case d302 => walk_at "dmx"); (case r302 => walk_at "rot"); (case rr302 => walk_at "rot"); (case rrr302 => walk_at "rot"); (case hd302 => walk_at "hdx"); (case hu302 => walk_at "hux"); intro Jn9 H9 c9 hJ9 hc9 hH9 h9 tk9 F9 N9 D9; refine store_inst hH9 ?_; intro dst hl stk trl h1 h2 h3 h4 h5 h6 h7 k1 k2 k3 k4 k5 k6 k7 u1 u2 u3 vs n hI1 hI2 hI3 hV; (try k_sweep); (try dsimp only))
      | k_dflt (refine' go2n (e := base2_R_pt) (base2_tells hH9 hc9) ?B303 ?F303 ?X303 ?N303 ?T303 ?hk303 ?d303 ?r303 ?rr303 ?hd303 ?hu303 ?_; (case B303 => k_asm); (case F303 => k_asm); (case X303 => k_asm); (case N303 => k_asm); (case T303 => k_asm); (case hk303 => first | exact rfl | assumption); (case d303 => walk_at "dmx"); (case r303 => walk_at "rot"); (case rr303 => walk_at "rot"); (case hd303 => walk_at "hdx"); (case hu303 => walk_at "hux"); intro u9 h9 tk9 F9 N9 D9; (try k_sweep); (try dsimp only))
    (revert X; k_fill; intro X; refine wpAny_call ?_; k_dflt ktr_enter; walk_at "loc"; refine genT ?_; intro tk9)
    walk_at "st9"
    k_dflt (refine' iter_none ?hh ?F ?N ?D ?hlo ?_; (case hh => exact rfl); (case F => k_asm); (case N => k_asm); (case D => walk_at "dm"); (case hlo => k_mem))
    intro h1 tk1 F1 N1
    k_with "exec While Compare cons nil" => guard_hyp gd52Z; (k_dflt (refine' while_ledR (P := H9) (P2 := S) (P3 := (_, tupO [_, _] _) :: (Jn9 ++ J)) (J := PutO w st sy σ S J R ta c9 hp x Jn9) ?F7 ?N7 ?D7 ?ra7 ?rb7 ?rc7 ?J7 ?_; (case F7 => k_asm); (case N7 => k_asm); (case D7 => walk_at "dm"); (case ra7 => walk_at "rot"); (case rb7 => walk_at "rot"); (case rc7 => walk_at "rot"); (case J7 => exact ⟨_, _, 0, [(hp.length + 1, ts)], _ :: Jn9, rfl, fun _ h => .tail _ h, ⟨_, none, _, _, by first | rfl | assumption, by first | rfl | assumption, by first | rfl | assumption, by first | rfl | assumption, ⟨_, by first | rfl | assumption⟩, WaitsV.push (v := .ref _) (ents := []) (wvs := []) ⟨rfl, fun i e h => by simp at h⟩ ⟨_, _, _, _, _, tvs, rfl, .head _, .tail _ (List.mem_append_right _ hm2), htv.mono fun _ h => .tail _ (List.mem_append_right _ h)⟩, Nat.zero_le _, by simpa [fl] using way_start hs, fun z hz => hgs _ (flat_mem (by simpa [fl] using hz)), fun e he => by rw [List.mem_singleton] at he; subst he; intro h0; rw [show ts = [] from h0] at hts0; exact absurd hts0 (by decide), by simp [fl]; walk_at "ar", _, _, _, _, [], hH9.mono fun _ h => .tail _ h, hto, rfl, tupL_cons rfl hJ9, rfl⟩⟩)); intro n m₁ led₁ h tk hJ F1 N1 D1; refine genW fun K9 hK9 => ?_; (refine Gen fun gG9 gK9 => ?_; obtain ⟨lb, cb, at9, ents, Jn, rfl, hJJ, ⟨hp', tbl, wvs, wl, hms, hmt, hmm, hmw, ⟨u7, hma⟩, hW, hat, hWay, hGood, hne, hlen, H', wn, es', nt', kvs, hH2, htd, htv2, hJn, rfl⟩⟩ := hJ; refine gK9 ?_; clear gK9 gG9); have hwl9 : wvs.length < 100000 := (by walk_at "ar"); rcases put_cases hW hat with ⟨p9, ts9, wa, u8, k8, ia, k7, vs9, he9, hx9, hw1, hw2, htm9, hlt9⟩ | ⟨hq9, hlt9⟩ <;> (try (have hi63 : (at9 : Int) < 2 ^ 63 := (by walk_at "ar"))))
    k_with "mine iter" => guard_hyp gd52Z; (k_dflt (refine' iter_led (l := ia) (J := PutI w st sy σ S J R ta lb c9 cb hp x Jn at9 p9 (wt (fl (ents.drop at9))) ts9) ?hh8 ?F8 ?N8 ?D8 ?hlo8 (.inr rfl) ?hj8 ?hJl8 (fun i v m₁ led₁ h tk I io hv hJ F1 N1 D1 hio => genK fun K9 hK9 => ?_) (fun m₁ led₁ h tk hJ F1 N1 D1 => ?_); (case hh8 => exact rfl); (case F8 => k_asm); (case N8 => k_asm); (case D8 => walk_at "dm"); (case hlo8 => k_mem); (case hj8 => rw [fl_drop he9] at hWay hGood hlen ⊢; exact ⟨ents, Jn, _, _, fun _ h => h, by first | rfl | assumption, rfl, ⟨hp', tbl, wvs, wl, hms, hmt, hmm, hmw, ⟨_, by first | rfl | assumption⟩, hW, (List.getElem?_eq_some_iff.mp he9).1, hWay, hGood, hne, hlen, H', wn, es', nt', kvs, hH2, htd, htv2, hJn, rfl⟩, rfl⟩); (case hJl8 => intro i m led hJ; (refine Gen fun gG9 gK9 => ?_; obtain ⟨_, Jn', _, _, hs, _, _, ⟨_, _, _, _, _, _, _, _, _, _, _, _, _, _, _, _, _, _, _, _, _, _, _, _, e⟩, _⟩ := hJ; refine gK9 ?_; clear gK9 gG9); rw [e]; exact List.mem_append_right _ (List.mem_append_right _ (List.mem_append_left _ ((List.mem_append.mp hw2).elim (fun h => List.mem_append_left _ (hs _ h)) (fun h => List.mem_append_right _ h)))))))
    k_sweep
    walk_at "st9"
    · (refine Gen fun gG9 gK9 => ?_; obtain ⟨ents', Jn', pz, u6, hJJ', hmp, hpz, ⟨hp2, tbl2, wvs2, wl2, hms, hmt, hmm, hmw, ⟨u7, hma⟩, hW2, hat2, hWay2, hGood2, hne2, hlen2, H2, wn2, es2, nt2, kvs2, hH2, htd2, htv2, hJn2, rfl⟩, hwt⟩ := hJ; refine gK9 ?_; clear gK9 gG9)
      have hi9 : i < vs9.length := (List.getElem?_eq_some_iff.mp hv).1
      (refine Gen fun gG9 gK9 => ?_; obtain ⟨t, ht⟩ : ∃ t, ts9[i]? = some t := ⟨_, List.getElem?_eq_getElem (by have := htm9.1; walk_at "ar")⟩; refine gK9 ?_; clear gK9 gG9)
      (refine Gen fun gG9 gK9 => ?_; obtain ⟨v', hv', htv⟩ := htm9.2 i t ht; refine gK9 ?_; clear gK9 gG9)
      rw [hv] at hv'
      cases hv'
      replace htv := htv.mono (app_mono (J := J) hJJ')
      rw [flat_drop ht] at hWay2 hGood2 hwt hlen2
      rw [List.cons_append] at hWay2 hGood2 hwt hlen2
      rw [wt_cons] at hwt hlen2
      have hp9 := hWay2.lt (.head _)
      have hroom := hWay2.room
      have hp9' : p9 + i < hp2.length := hp9
      refine store_inst hH2 ?_; intro dst hl stk trl h1 h2 h3 h4 h5 h6 h7 k1 k2 k3 k4 k5 k6 k7 u1 u2 u3 vs n hI1 hI2 hI3 hV
      have hvl9 : vs.length = hp2.length := hV.1
      have hpz0 : 0 ≤ pz := by walk_at "ar"
      have hpz1 : pz < (vs.length : Int) := by walk_at "ar"
      have hpn : pz.toNat = p9 + i := by walk_at "ar"
      rcases tm_cases t with e9 | ⟨n9, e9⟩ | ⟨i9, e9⟩ | ⟨f9, ts', hs'⟩
      · have hsz : t.size = 1 := by rw [e9]; rfl
        refine store_open hH2 ?_; rintro dst hl stk trl h1 h2 h3 h4 h5 h6 h7 k1 k2 k3 k4 k5 k6 k7 u1 u2 u3 vs n rfl hV
        have hpz1 : pz < (vs.length : Int) := by rw [hV.1]; walk_at "ar"
        have hvz : vs.length < 1000000 := by rw [hV.1]; walk_at "ar"
        dsimp only [List.cons_append, List.nil_append] at N1 D1
        refine (show TmF _ _ .var from e9 ▸ htv.fn) _ ?_; rintro a tq tq' kq rfl hm
        cases tbl2 with
        | none =>
          have hk0 : kvs2 = [] := htv2
          subst hk0
          k_sweep
          walk_at "st9"
          (refine hK9 _ _ ?_; refine' TurnQ.rot4 (P := [(hl, _), (st, _), (dst, _), (stk, _), (trl, _)]) (P2 := S) (P3 := (_, tupO [.int _ _, .int _ _] _) :: (Jn' ++ J)) ?F305 ?N305 ?D305 ?r305 ?ra305 ?rb305 ?rc305 ?J; (case F305 => k_asm); (case N305 => k_asm); (case D305 => walk_at "dm"); (case r305 => walk_at "rot"); (case ra305 => walk_at "rot"); (case rb305 => walk_at "rot"); (case rc305 => walk_at "rot"))
          (case J => exact ⟨ents', _ :: Jn', _, _, fun p h => .tail _ (hJJ' p h), by first | rfl | assumption, by walk_at "ar", ⟨_, (some (p9 + i)), wvs2, wl2, hms, hmt, hmm, hmw, ⟨u7, hma⟩, hW2.mono (app_mono (fun p h => .tail _ h)), hat2, (e9 ▸ hWay2).var, fun z hz => hGood2 z (.tail _ hz), hne2, by walk_at "ar", _, wn2, _, _, _, (store_mk (hV.mono (app_mono fun p h => .tail _ h))), by assumption, ⟨_, rfl, cell_head rfl hpz⟩, tupL_cons rfl hJn2, rfl⟩, by walk_at "ar"⟩)
        | some q =>
          (refine Gen fun gG9 gK9 => ?_; obtain ⟨qa, rfl, hqa⟩ := htv2; refine gK9 ?_; clear gK9 gG9)
          k_sweep
          walk_at "st9"
          (refine hK9 _ _ ?_; refine' TurnQ.rot4 (P := [(hl, _), (st, _), (dst, _), (stk, _), (trl, _)]) (P2 := S) (P3 := Jn' ++ J) ?F306 ?N306 ?D306 ?r306 ?ra306 ?rb306 ?rc306 ?J; (case F306 => k_asm); (case N306 => k_asm); (case D306 => walk_at "dm"); (case r306 => walk_at "rot"); (case ra306 => walk_at "rot"); (case rb306 => walk_at "rot"); (case rc306 => walk_at "rot"))
          (case J => exact ⟨ents', Jn', _, _, hJJ', by first | rfl | assumption, by walk_at "ar", ⟨_, (some q), wvs2, wl2, hms, hmt, hmm, hmw, ⟨u7, hma⟩, hW2.mono (app_mono (fun p h => h)), hat2, (e9 ▸ hWay2).leaf (c := (0, (q : Int))) (fun hF htab => .var (htab q rfl)) (Nat.le_refl _), fun z hz => hGood2 z (.tail _ hz), hne2, by walk_at "ar", _, wn2, _, _, _, (store_mk (by rw [← hpn]; exact hV.set hqa)), htd2, ⟨qa, rfl, hqa⟩, hJn2, rfl⟩, by walk_at "ar"⟩)
      · have hsz : t.size = 1 := by rw [e9]; rfl
        refine store_open hH2 ?_; rintro dst hl stk trl h1 h2 h3 h4 h5 h6 h7 k1 k2 k3 k4 k5 k6 k7 u1 u2 u3 vs n rfl hV
        have hpz1 : pz < (vs.length : Int) := by rw [hV.1]; walk_at "ar"
        have hvz : vs.length < 1000000 := by rw [hV.1]; walk_at "ar"
        dsimp only [List.cons_append, List.nil_append] at N1 D1
        refine (show TmF _ _ (.at n9) from e9 ▸ htv.fn) _ ?_; rintro a tq tq' kq rfl hm
        k_sweep
        walk_at "st9"
        (refine hK9 _ _ ?_; refine' TurnQ.rot4 (P := [(hl, _), (st, _), (dst, _), (stk, _), (trl, _)]) (P2 := S) (P3 := (_, tupO [.int _ _, .int _ _] _) :: (Jn' ++ J)) ?F307 ?N307 ?D307 ?r307 ?ra307 ?rb307 ?rc307 ?J; (case F307 => k_asm); (case N307 => k_asm); (case D307 => walk_at "dm"); (case r307 => walk_at "rot"); (case ra307 => walk_at "rot"); (case rb307 => walk_at "rot"); (case rc307 => walk_at "rot"))
        (case J => exact ⟨ents', _ :: Jn', _, _, fun p h => .tail _ (hJJ' p h), by first | rfl | assumption, by walk_at "ar", ⟨_, tbl2, wvs2, wl2, hms, hmt, hmm, hmw, ⟨u7, hma⟩, hW2.mono (app_mono (fun p h => .tail _ h)), hat2, (e9 ▸ hWay2).leaf (c := (4, n9)) (fun _ _ => .at) (Nat.le_refl _), fun z hz => hGood2 z (.tail _ hz), hne2, by walk_at "ar", _, wn2, _, _, _, (store_mk (by rw [← hpn]; exact (hV.mono (app_mono fun p h => .tail _ h)).set (cell_head rfl rfl))), htd2, htv2.mono (app_mono fun p h => .tail _ h), tupL_cons rfl hJn2, rfl⟩, by walk_at "ar"⟩)
      · have hsz : t.size = 1 := by rw [e9]; rfl
        refine store_open hH2 ?_; rintro dst hl stk trl h1 h2 h3 h4 h5 h6 h7 k1 k2 k3 k4 k5 k6 k7 u1 u2 u3 vs n rfl hV
        have hpz1 : pz < (vs.length : Int) := by rw [hV.1]; walk_at "ar"
        have hvz : vs.length < 1000000 := by rw [hV.1]; walk_at "ar"
        dsimp only [List.cons_append, List.nil_append] at N1 D1
        refine (show TmF _ _ (.num i9) from e9 ▸ htv.fn) _ ?_; rintro a tq tq' kq rfl hm
        k_sweep
        walk_at "st9"
        (refine hK9 _ _ ?_; refine' TurnQ.rot4 (P := [(hl, _), (st, _), (dst, _), (stk, _), (trl, _)]) (P2 := S) (P3 := (_, tupO [.int _ _, .int _ _] _) :: (Jn' ++ J)) ?F308 ?N308 ?D308 ?r308 ?ra308 ?rb308 ?rc308 ?J; (case F308 => k_asm); (case N308 => k_asm); (case D308 => walk_at "dm"); (case r308 => walk_at "rot"); (case ra308 => walk_at "rot"); (case rb308 => walk_at "rot"); (case rc308 => walk_at "rot"))
        (case J => exact ⟨ents', _ :: Jn', _, _, fun p h => .tail _ (hJJ' p h), by first | rfl | assumption, by walk_at "ar", ⟨_, tbl2, wvs2, wl2, hms, hmt, hmm, hmw, ⟨u7, hma⟩, hW2.mono (app_mono (fun p h => .tail _ h)), hat2, (e9 ▸ hWay2).leaf (c := (5, i9)) (fun _ _ => .num) (Nat.le_refl _), fun z hz => hGood2 z (.tail _ hz), hne2, by walk_at "ar", _, wn2, _, _, _, (store_mk (by rw [← hpn]; exact (hV.mono (app_mono fun p h => .tail _ h)).set (cell_head rfl rfl))), htd2, htv2.mono (app_mono fun p h => .tail _ h), tupL_cons rfl hJn2, rfl⟩, by walk_at "ar"⟩)
      · refine str_v htv hs' ?_; rintro a7 b7 t7 t7' kk7 kk7' tvs7 rfl hm7 hm8 htv7
        refine str_good (hGood2 _ (.head _)) hs' ?_; intro hf0' hfz' fa' hf' hgs' hts0' hts3'
        have hxs' := wt_str (p := hp2.length + 1) hs'
        have hwl8 : wvs2.length < 1000000 := by walk_at "ar"
        k_with "mine call" => guard_hyp gd52Z; first
          | k_dflt (refine' go3n (e := newblk_R_pt) (newblk_tells (k := ts'.length) hH2 hS (by walk_at "ar") (by walk_at "ar") hf0' hfz' hf') ?B309 ?F309 ?X309 ?N309 ?T309 ?hk309 ?d309 ?r309 ?rr309 ?rrr309 ?hd309 ?hu309 ?_; (case B309 => k_asm); (case F309 => k_asm); (case X309 => k_asm); (case N309 => k_asm); (case T309 => k_asm); (case hk309 => first | exact rfl | assumption); (case d309 => walk_at "dmx"); (case r309 => walk_at "rot"); (case rr309 => walk_at "rot"); (case rrr309 => walk_at "rot"); (case hd309 => walk_at "hdx"); (case hu309 => walk_at "hux"); intro Jn9 H9 c8 hJ9' hc8 hH9 h9 tk9 F9 N9 D9; rw [← List.append_assoc Jn9 Jn' J] at N9 D9 hH9 hc8; replace hm7 := app_mono (Jn' := Jn9 ++ Jn') (fun p h => List.mem_append_right _ h) _ hm7; refine store_open hH9 ?_; rintro dst hl stk trl h1 h2 h3 h4 h5 h6 h7 k1 k2 k3 k4 k5 k6 k7 u1 u2 u3 vs n rfl hV; have hvl8 := hV.1; simp only [List.length_append, List.length_cons, zs_len] at hvl8; have hpz1 : pz < (vs.length : Int) := (by walk_at "ar"); have hvz : vs.length < 1000000 := (by walk_at "ar"); dsimp only [List.cons_append, List.nil_append] at N9 D9; (try k_sweep); (try dsimp only))
          | k_dflt (refine' go2n (e := base2_R_pt) (base2_tells (store_mk (hV.set hc8)) hc8) ?B310 ?F310 ?X310 ?N310 ?T310 ?hk310 ?d310 ?r310 ?rr310 ?hd310 ?hu310 ?_; (case B310 => k_asm); (case F310 => k_asm); (case X310 => k_asm); (case N310 => k_asm); (case T310 => k_asm); (case hk310 => first | exact rfl | assumption); (case d310 => walk_at "dmx"); (case r310 => walk_at "rot"); (case rr310 => walk_at "rot"); (case hd310 => walk_at "hdx"); (case hu310 => walk_at "hux"); intro u9 h9 tk9 F9 N9 D9; dsimp only [List.cons_append, List.nil_append] at N9 D9; (try k_sweep); (try dsimp only))
        k_sweep
        walk_at "st9"
        (refine hK9 _ _ ?_; refine' TurnQ.rot4 (P := [(hl, _), (st, _), (dst, _), (stk, _), (trl, _)]) (P2 := S) (P3 := (_, tupO [.int _ _, .ref b7] _) :: (Jn9 ++ Jn' ++ J)) ?F311 ?N311 ?D311 ?r311 ?ra311 ?rb311 ?rc311 ?J; (case F311 => k_asm); (case N311 => k_asm); (case D311 => walk_at "dm"); (case r311 => walk_at "rot"); (case ra311 => walk_at "rot"); (case rb311 => walk_at "rot"); (case rc311 => walk_at "rot"))
        (case J => exact ⟨ents' ++ [(hp2.length + 1, ts')], _ :: (Jn9 ++ Jn'), _, _, fun p h => .tail _ (List.mem_append_right _ (hJJ' p h)), by first | rfl | assumption, by walk_at "ar", ⟨_, tbl2, wvs2 ++ [.ref _], wl2, hms, hmt, hmm, hmw, ⟨u7, hma⟩, (hW2.mono (app_mono fun p h => .tail _ (List.mem_append_right _ h))).push ⟨_, _, _, _, _, tvs7, rfl, .head _, .tail _ (app_mono (fun p h => List.mem_append_right _ h) _ hm8), htv7.mono (fun p h => .tail _ (app_mono (fun p h => List.mem_append_right _ h) p h))⟩, by simp; walk_at "ar", by rw [fl_push hat2, ← List.append_assoc]; exact hWay2.str hs', fun z hz => by
            rw [fl_push hat2, ← List.append_assoc] at hz
            rcases List.mem_append.mp hz with hz | hz
            · exact hGood2 z (.tail _ hz)
            · exact hgs' _ (flat_mem hz), fun e he => by
            rcases List.mem_append.mp he with he | he
            · exact hne2 e he
            · rw [List.mem_singleton] at he; subst he; intro h0; rw [show ts' = [] from h0] at hts0'; exact absurd hts0' (by decide), by rw [fl_push hat2, ← List.append_assoc, wt_app, wt_flat, List.length_append]; rw [wt_flat] at hxs'; simp only [List.length_cons, List.length_nil]; walk_at "ar", _, _, _, _, _, (store_mk (by rw [← hpn]; exact (hV.set hc8).mono fun p h => .tail _ h)), htd2, htv2.mono (fun p h => .tail _ (app_mono (fun p h => List.mem_append_right _ h) p h)), tupL_cons rfl (tupL_app hJ9' hJn2), rfl⟩, by rw [fl_push hat2, ← List.append_assoc, wt_app, wt_flat]; rw [wt_flat] at hxs'; walk_at "ar"⟩)
    · (refine Gen fun gG9 gK9 => ?_; obtain ⟨ents', Jn', pz, u6, hJJ', hmp, hpz, hP, hwt⟩ := hJ; refine gK9 ?_; clear gK9 gG9)
      have hv0 : vs9.length = ts9.length := htm9.1
      have ht0 : 0 < ts9.length := List.length_pos_iff.mpr (hne _ (List.mem_of_getElem? he9))
      rw [hv0, List.drop_length] at hP hwt
      (refine hK9 _ _ ?_; refine' TurnW.rot ?F ?N ?D ?n ?j; (case F => k_asm); (case N => k_asm); (case D => walk_at "dm"); (case j => exact ⟨lb, cb, at9 + 1, ents', Jn', rfl, fun p h => hJJ' p (hJJ p h), hP⟩); (case n => rw [← hwt]; simp only [flat, List.nil_append]; walk_at "ar"))
    · rw [hq9, List.drop_length] at hWay
      (refine Gen fun gG9 gK9 => ?_; obtain ⟨as, ext, hL, hnd, _, rfl, hle⟩ := hWay.done; refine gK9 ?_; clear gK9 gG9)
      refine' out3D (P := H') (P2 := S) (P3 := Jn ++ J) (R := R) hret ?F312 ?N312 ?D312 ?r312 ?rr312 ?rrr312 ?rrrr312 ?P; (case F312 => k_asm); (case N312 => k_asm); (case D312 => walk_at "dm"); (case r312 => walk_at "rot"); (case rr312 => walk_at "rot"); (case rrr312 => walk_at "rot"); (case rrrr312 => walk_at "rot")
      (case P => exact ⟨Jn, H', c9, _, as, ext, hJn, rfl, hc9.mono (app_mono hJJ), hH2, hL, hnd, hle, rfl⟩))) only [↓hidL]
end Mine
namespace Mine
open PySem PySem.Calls PyProof.Rows PySem.Spec
theorem rots7 {led P P2 P3 P4 P5 P6 P7 R R1 R2 R3 R4 R5 R6 : Led} (r1 : Rot P led R1) (r2 : Rot P2 R1 R2) (r3 : Rot P3 R2 R3) (r4 : Rot P4 R3 R4) (r5 : Rot P5 R4 R5) (r6 : Rot P6 R5 R6) (r7 : Rot P7 R6 R) : led.Perm (P ++ (P2 ++ (P3 ++ (P4 ++ (P5 ++ (P6 ++ (P7 ++ R))))))) :=
  (Rot.three r1 r2 r3).trans (List.Perm.append_left P (List.Perm.append_left P2 (List.Perm.append_left P3 (r4.perm.trans (List.Perm.append_left P4 (Rot.three r5 r6 r7))))))
theorem while_ledP {prog : Program} {w : World} {A : Around} {E : Value → Shared → Prop} {s : Shared} {env : Env} {h₀ : Heap} {Q : Flow → Shared → Prop} {test : Expr} {body : List Stmt} {pos : Pos} {m : Str → Option Value} {led0 led1 : Led} (J : Nat → (Str → Option Value) → Led → Prop) {n₀ : Nat}
    (F : Fr h₀ env.locals s.heap m) (N : News h₀ env.locals s.heap led0) (dm : Dm led0) (p : led0.Perm led1) (hJ : J n₀ m led1)
    (turn : ∀ n m₁ led₁ h tk, J n m₁ led₁ → Fr h₀ env.locals h m₁ → News h₀ env.locals h led₁ → Dm led₁ →
      wpAny (model prog w) A (isTrue test env (eval test env)) (fun b s₂ =>
        if b = true then wpAny (model prog w) A (execs body env) (TurnW h₀ env.locals { s with heap := h, toks := tk } J Q n) E s₂ else Q .next s₂) E { s with heap := h, toks := tk })
    (hE : PassesOwn (model prog w) A env E := by passes_own) :
    wpAny (model prog w) A (exec (.While test body [] pos) env) Q E s := while_led J F (News.perm p N) (Dm.perm p dm) hJ turn hE
theorem TurnW.rotP {h₀ : Heap} {L : Addr} {s₁ : Shared} {J : Nat → (Str → Option Value) → Led → Prop} {Q : Flow → Shared → Prop} {h' : Heap} {tk n n' : Nat} {m' : Str → Option Value} {led0 led1 : Led}
    (F : Fr h₀ L h' m') (N : News h₀ L h' led0) (d : Dm led0) (p : led0.Perm led1) (hj : J n' m' led1) (hn : n' < n) : TurnW h₀ L s₁ J Q n .next { s₁ with heap := h', toks := tk } := TurnW.rot F (News.perm p N) (Dm.perm p d) hn hj
theorem TurnW.rotPC {h₀ : Heap} {L : Addr} {s₁ : Shared} {J : Nat → (Str → Option Value) → Led → Prop} {Q : Flow → Shared → Prop} {h' : Heap} {tk n n' : Nat} {m' : Str → Option Value} {led0 led1 : Led}
    (F : Fr h₀ L h' m') (N : News h₀ L h' led0) (d : Dm led0) (p : led0.Perm led1) (hj : J n' m' led1) (hn : n' < n) : TurnW h₀ L s₁ J Q n .cont { s₁ with heap := h', toks := tk } := TurnW.rotC F (News.perm p N) (Dm.perm p d) hn hj
theorem rots3G {led P P2 P3 R R1 R2 R3 G : Led} (r1 : Rot P led R1) (r2 : Rot P2 R1 R2) (r3 : Rot P3 R2 R3) (r4 : Rot R R3 G) : led.Perm ((P ++ (P2 ++ (P3 ++ R))) ++ G) :=
  (Rot.three r1 r2 r3).trans (by
    rw [List.append_assoc, List.append_assoc, List.append_assoc]
    exact List.Perm.append_left P (List.Perm.append_left P2 (List.Perm.append_left P3 r4.perm)))
theorem rots4G {led P P2 P3 P4 R R1 R2 R3 R4 G : Led} (r1 : Rot P led R1) (r2 : Rot P2 R1 R2) (r3 : Rot P3 R2 R3) (r4 : Rot P4 R3 R4) (r5 : Rot R R4 G) : led.Perm ((P ++ (P2 ++ (P3 ++ (P4 ++ R)))) ++ G) :=
  r1.perm.trans (by rw [List.append_assoc]; exact List.Perm.append_left P (rots3G r2 r3 r4 r5))
theorem rots8 {led P P2 P3 P4 P5 P6 P7 P8 R R1 R2 R3 R4 R5 R6 R7 : Led} (r0 : Rot P8 led R7) (r1 : Rot P R7 R1) (r2 : Rot P2 R1 R2) (r3 : Rot P3 R2 R3) (r4 : Rot P4 R3 R4) (r5 : Rot P5 R4 R5) (r6 : Rot P6 R5 R6) (r7 : Rot P7 R6 R) : led.Perm (P ++ (P2 ++ (P3 ++ (P8 ++ (P4 ++ (P5 ++ (P6 ++ (P7 ++ R)))))))) := by
  have p : led.Perm (P8 ++ (P ++ (P2 ++ (P3 ++ (P4 ++ (P5 ++ (P6 ++ (P7 ++ R)))))))) := r0.perm.trans (List.Perm.append_left P8 (rots7 r1 r2 r3 r4 r5 r6 r7))
  refine p.trans ?_
  have q : ∀ X : Led, (P8 ++ (P ++ (P2 ++ (P3 ++ X)))).Perm (P ++ (P2 ++ (P3 ++ (P8 ++ X)))) := fun X => by
    simpa only [List.append_assoc] using List.perm_append_comm_assoc P8 (P ++ P2 ++ P3) X
  exact q _
theorem outP {h₀ h' : Heap} {L : Addr} {m : Str → Option Value} {s : Shared} {Q : Value → Shared → Prop} {led led' G : Led} {Ret : Value → Led → Prop} {r : Value} {tk' : Nat} (hret : ∀ r led' h' tk', Fr h₀ L h' m → News h₀ L h' led' → Dm led' → Ret r led' → Q r { s with heap := h', toks := tk' })
    (F : Fr h₀ L h' m) (N : News h₀ L h' led) (d : Dm led) (p : led.Perm (led' ++ G)) (hR : Ret r led') : Q r { s with heap := h', toks := tk' } :=
  hret _ _ _ _ F (News.sub (News.perm p N) fun _ h => List.mem_append_left _ h) (Dm.sub (Dm.perm p d) (List.sublist_append_left _ _)) hR
theorem ErrAt.dropP {w : World} {sy : Addr} {σ : Sy} {n : Nat} {er : Er} {Rf R G : Led} {dx : Addr} {led' : Led} (h : ErrAt w sy σ n er Rf dx led') (p : Rf.Perm (R ++ G)) : ∃ led'', ErrAt w sy σ n er R dx led'' ∧ (∀ q ∈ led'', q ∈ led') ∧ (Dm led' → Dm led'') := by
  obtain ⟨S', σ', hs, k, v, J, h1, h2, h3, h4, h5, h6, rfl⟩ := h
  have p2 : (S' ++ ((dx, ballD hs k v) :: (J ++ Rf))).Perm (S' ++ ((dx, ballD hs k v) :: (J ++ (R ++ G)))) := List.Perm.append_left _ (List.Perm.cons _ (List.Perm.append_left _ p))
  have sl : (S' ++ ((dx, ballD hs k v) :: (J ++ R))).Sublist (S' ++ ((dx, ballD hs k v) :: (J ++ (R ++ G)))) := List.Sublist.append_left (List.Sublist.cons_cons _ (List.Sublist.append_left (List.sublist_append_left _ _) _)) _
  exact ⟨_, ⟨S', σ', hs, k, v, J, h1, h2, h3, h4, h5, h6, rfl⟩, fun q hq => p2.mem_iff.mpr (sl.subset hq), fun d => Dm.sub (Dm.perm p2 d) sl⟩
theorem errAt_of {w : World} {sy : Addr} {σ : Sy} {n : Nat} {er : Er} {R led' : Led} {r : Value} (h : ErrRet w sy σ n er R r led') : ∃ e dx t led0, r = .ref e ∧ ErrAt w sy σ n er R dx led0 ∧ led'.Perm ((e, excObj dx t) :: led0) := by
  obtain ⟨S9, σ9, e9, dx9, t9, hs9, k9, v9, J9, hS9, hle9, hD9, hsm9, hK9, hv9, f9, g9⟩ := h
  refine ⟨e9, dx9, t9, S9 ++ ((dx9, ballD hs9 k9 v9) :: (J9 ++ R)), f9, ⟨S9, σ9, hs9, k9, v9, J9, hS9, hle9, hD9, hsm9, hK9, hv9, rfl⟩, ?_⟩
  rw [g9]
  have q : ∀ (x y : Addr × Obj) (Z : Led), (S9 ++ x :: y :: Z).Perm (y :: (S9 ++ x :: Z)) := fun x y Z => (List.Perm.append_left S9 (List.Perm.swap y x Z)).trans List.perm_middle
  exact q _ _ _
theorem last_facts {p : List Value} {v : Value} (h : p.length < 1000000) : (p ++ [v])[(((p ++ [v]).length : Int) - 1).toNat]? = some v ∧ 0 ≤ ((p ++ [v]).length : Int) - 1 ∧ ((p ++ [v]).length : Int) - 1 < 2 ^ 63 := by
  have hl : (p ++ [v]).length = p.length + 1 := by simp
  refine ⟨?_, by (first | with_reducible exact om251 hl | with_reducible exact om253 h hl | with_reducible exact om254 hl | omega), by (first | with_reducible exact om251 hl | with_reducible exact om253 h hl | with_reducible exact om254 hl | omega)⟩
  rw [show (((p ++ [v]).length : Int) - 1).toNat = p.length by (first | with_reducible exact om251 hl | with_reducible exact om253 h hl | with_reducible exact om254 hl | omega)]
  simp
theorem thr_drop {w : World} {sy : Addr} {σ : Sy} {n : Nat} {er : Er} {Rf R G : Led} {base h₀ g h' : Heap} {cn : Str} {cs : Scope} {L a e dx : Addr} {ccd : Value} {cl : List (Str × Addr)} {outer : List Env} {led' : Led} {m : Str → Option Value} {s : Shared} {E : Value → Shared → Prop} {tk' : Nat} {X : Except Er Int}
    (hthr : ∀ e dx led' h' tk' g, Fr h₀ L g m → g.UpToSlots h' → Rz base (envX cn cs L a ccd cl :: outer) e dx led' h' → Dm led' → (∃ er, X = .error er ∧ ErrAt w sy σ n er R dx led') → E (.ref e) { s with heap := h', toks := tk' })
    (F : Fr h₀ L g m) (U : g.UpToSlots h') (Z : Rz base (envX cn cs L a ccd cl :: outer) e dx led' h') (D : Dm led') (hA : ErrAt w sy σ n er Rf dx led') (p : Rf.Perm (R ++ G)) (hX : X = .error er) : E (.ref e) { s with heap := h', toks := tk' } := by
  obtain ⟨led8, hB, hC, hD⟩ := hA.dropP p
  exact hthr _ _ _ _ _ _ F U (Rz.sub Z hC) (hD D) ⟨er, hX, hB⟩
theorem truthy_snoc {prog : Program} {w : World} {A : Around} {E : Value → Shared → Prop} {s : Shared} {h₀ : Heap} {L l : Addr} {led : Led} {vs : List Value} {v : Value} {n : Nat} {Q : Bool → Shared → Prop} (N : News h₀ L s.heap led) (hm : (l, listOf (vs ++ [v]).toArray n) ∈ led) (hz : vs.length < 1000000) (h : Q true { s with toks := s.toks + 1 + 1 }) : wpAny (model prog w) A (truthy (.ref l)) Q E s :=
  wpAny_truthy_list (PySem.IsL.isList (n := n) (N _ hm).1) (by simp; (first | with_reducible exact om252 hz | omega)) (by rw [show (!(vs ++ [v]).toArray.isEmpty) = true by simp]; exact h)
theorem truthy_nil {prog : Program} {w : World} {A : Around} {E : Value → Shared → Prop} {s : Shared} {h₀ : Heap} {L l : Addr} {led : Led} {n : Nat} {Q : Bool → Shared → Prop} (N : News h₀ L s.heap led) (hm : (l, listOf [].toArray n) ∈ led) (h : Q false { s with toks := s.toks + 1 + 1 }) : wpAny (model prog w) A (truthy (.ref l)) Q E s :=
  wpAny_truthy_list (PySem.IsL.isList (n := n) (N _ hm).1) (by simp) (by rw [show (!([] : List Value).toArray.isEmpty) = false by simp]; exact h)
theorem iter_rangeP {prog : Program} {w : World} {A : Around} {E : Value → Shared → Prop} {s : Shared} {env : Env} {h₀ : Heap} {x : Str} {body : List Stmt} {Q : Flow → Shared → Prop} {r : Addr} {a b c : Int} {t u v : Tok} {n : Nat} {m : Str → Option Value} {led0 led : Led} (J : Nat → (Str → Option Value) → Led → Prop) (hh : A.handled = none) (hr : IsRange s.heap r a b c t u v) (hsm : Builtin.Range.small a b c = true) (hn : Builtin.Range.rangeSize a b c = (n : Int)) (F : Fr h₀ env.locals s.heap m) (N : News h₀ env.locals s.heap led0) (dm : Dm led0) (p : led0.Perm led) (hj : J 0 m led)
    (turn : ∀ i tv m₁ led₁ h tk I io, i < n → J i m₁ led₁ → Fr h₀ env.locals h (fun y => if y = x then some (.int (a + (i : Int) * c) tv) else m₁ y) → News h₀ env.locals h ((I, io) :: led₁) → Dm ((I, io) :: led₁) → io.cls ≠ .type "tuple" →
      wpAny (model prog w) A (execs body env) (TurnQ h₀ env.locals { s with heap := h, toks := tk } I io (J (i + 1)) Q) E { s with heap := h, toks := tk })
    (done : ∀ m₁ led₁ h tk, J n m₁ led₁ → Fr h₀ env.locals h m₁ → News h₀ env.locals h led₁ → Dm led₁ → Q .next { s with heap := h, toks := tk }) :
    wpAny (model prog w) A (pyIter (.ref r)) (fun it s₂ => LoopAtV prog w A h₀ env x body Q E it s₂) E s := iter_range J hh hr hsm hn F (News.perm p N) (Dm.perm p dm) hj turn done
theorem TurnQ.rotP {h₀ : Heap} {L : Addr} {s₁ : Shared} {I : Addr} {io : Obj} {J : (Str → Option Value) → Led → Prop} {Q : Flow → Shared → Prop} {h' : Heap} {tk : Nat} {m' : Str → Option Value} {led0 led1 R1 : Led}
    (F : Fr h₀ L h' m') (N : News h₀ L h' led0) (d : Dm led0) (r : Rot [(I, io)] led0 R1) (p : R1.Perm led1) (hj : J m' led1) : TurnQ h₀ L s₁ I io J Q .next { s₁ with heap := h', toks := tk } :=
  have q : led0.Perm ((I, io) :: led1) := r.perm.trans (List.Perm.cons _ p)
  TurnQ.next F (News.perm q N) (Dm.perm q d) hj
theorem down_size {k : Nat} : Builtin.Range.rangeSize (k : Int) 0 (-1) = (k : Int) := by
  unfold Builtin.Range.rangeSize
  rw [if_neg (by decide)]
  split
  · rw [show (-(-1 : Int)) = 1 from rfl, Int.ediv_one]; (first | with_reducible exact om110 (by assumption) | with_reducible exact om109 | omega)
  · (first | with_reducible exact om110 (by assumption) | with_reducible exact om109 | omega)
theorem down_small {k : Nat} (h : k < 1000) : Builtin.Range.small (k : Int) 0 (-1) = true := by
  unfold Builtin.Range.small
  rw [down_size]
  have h1 : Builtin.Range.rangeFitsLong (k : Int) = true := by unfold Builtin.Range.rangeFitsLong; simp; (first | with_reducible exact om155 h | omega)
  simp only [h1, Bool.and_true, Bool.true_and]
  have h2 : Builtin.Range.rangeFitsLong 0 = true := by decide
  have h3 : Builtin.Range.rangeFitsLong (-1) = true := by decide
  have h4 : (if (-1 : Int) > 0 then Builtin.Range.rangeFitsLong (0 + (-1 - 1)) else Builtin.Range.rangeFitsLong (0 + (-1 + 1))) = true := by decide
  rw [h2, h3, h4]; simp
theorem while_ledG {prog : Program} {w : World} {A : Around} {E : Value → Shared → Prop} {s : Shared} {env : Env} {h₀ : Heap} {Q : Flow → Shared → Prop} {test : Expr} {body : List Stmt} {pos : Pos} {m : Str → Option Value} {led0 led1 G : Led} (J : Nat → (Str → Option Value) → Led → Prop) {n₀ : Nat}
    (F : Fr h₀ env.locals s.heap m) (N : News h₀ env.locals s.heap led0) (dm : Dm led0) (p : led0.Perm (led1 ++ G)) (hJ : J n₀ m led1)
    (turn : ∀ n m₁ led₁ h tk, J n m₁ led₁ → Fr h₀ env.locals h m₁ → News h₀ env.locals h led₁ → Dm led₁ →
      wpAny (model prog w) A (isTrue test env (eval test env)) (fun b s₂ =>
        if b = true then wpAny (model prog w) A (execs body env) (TurnW h₀ env.locals { s with heap := h, toks := tk } J Q n) E s₂ else Q .next s₂) E { s with heap := h, toks := tk })
    (hE : PassesOwn (model prog w) A env E := by passes_own) :
    wpAny (model prog w) A (exec (.While test body [] pos) env) Q E s := while_led J F (News.sub (News.perm p N) fun _ h => List.mem_append_left _ h) (Dm.sub (Dm.perm p dm) (List.sublist_append_left _ _)) hJ turn hE
theorem rots5G {led P P2 P3 P4 R G R1 R2 R3 R4 : Led} (r1 : Rot P led R1) (r2 : Rot P2 R1 R2) (r3 : Rot P3 R2 R3) (r4 : Rot P4 R3 R4) (r5 : Rot R R4 G) : led.Perm ((P ++ (P2 ++ (P3 ++ (P4 ++ R)))) ++ G) := by
  rw [List.append_assoc, List.append_assoc, List.append_assoc, List.append_assoc]
  exact r1.perm.trans (List.Perm.append_left P (r2.perm.trans (List.Perm.append_left P2 (r3.perm.trans (List.Perm.append_left P3 (r4.perm.trans (List.Perm.append_left P4 r5.perm)))))))
end Mine
open Mine
theorem Mine.wd88 : True := by
  (k_with "W truthy ref" => (k_here; (with_reducible show wpAny _ _ (truthy (Value.ref _)) _ _ _); k_dflt (first
  | (refine' Mine.truthy_snoc ?NW88 ?mW88 ?zW88 ?_; (case NW88 => k_asm); (case mW88 => k_mem); (case zW88 => first | with_reducible assumption | walk_at "ar"); k_whole)
  | (refine' Mine.truthy_nil ?NW88 ?mW88 ?_; (case NW88 => k_asm); (case mW88 => k_mem); k_whole))))
  (k_with "mine k_all" => (refine' Mine.off ?NW89 ?dW89 ?bW89 ?cW89; (case NW89 => k_asm); (case dW89 => walk_at "dm"); (case bW89 => walk_at "beh"); (case cW89 => first | exact Mine.ncl | exact Mine.ncd | exact Mine.nci)))
  (k_with "mine k_upd" => (refine' Mine.upd_off ?bW90 ?NW90 ?dW90 ?bbW90 ?cW90; (case NW90 => k_asm); (case dW90 => walk_at "dm"); (case bbW90 => walk_at "bef"); (case cW90 => first | exact Mine.ncl | exact Mine.ncd | exact Mine.nci); (case bW90 => k_upd)))
  trivial
namespace Mine
open PySem PySem.Calls PyProof.Rows PySem.Spec
noncomputable def Sy.txt (σ : Sy) (f : Int) : Str := ((σ.funs[f.toNat]?).bind (fun p => σ.texts[p.1.toNat]?)).getD Str.empty
theorem txt_of {σ : Sy} {f a k : Int} {x : Str} (h1 : σ.funs[f.toNat]? = some (a, k)) (h2 : σ.texts[a.toNat]? = some x) : σ.txt f = x := by
  unfold Sy.txt; rw [h1]; simp only [Option.bind_some]; rw [h2]; rfl
noncomputable def ap1 (σ : Sy) (mx f v : Int) : Except Er Int := unE (σ.txt f) v >>= (sizeE · mx)
noncomputable def ap2 (σ : Sy) (mx f a b : Int) : Except Er Int := binE (σ.txt f) a b mx >>= (sizeE · mx)
noncomputable def evT (σ : Sy) (mx : Int) : Tm → Except Er Int
  | .num i => .ok i
  | .at n => .error (.evalu n 0)
  | .var => .error .inst
  | .s1 f x => evT σ mx x >>= ap1 σ mx f
  | .s2 f x y => evT σ mx x >>= fun a => evT σ mx y >>= fun b => ap2 σ mx f a b
noncomputable def stV (σ : Sy) (mx : Int) (vals : List Int) : Step → Except Er Int
  | .leaf t => evT σ mx t
  | .app f [p] => ap1 σ mx f (vals.getD p.toNat 0)
  | .app f [p, q] => ap2 σ mx f (vals.getD p.toNat 0) (vals.getD q.toNat 0)
  | .app _ _ => .ok 0
noncomputable def runS (σ : Sy) (mx : Int) : List Step → List Int → Except Er (List Int)
  | [], vs => .ok vs
  | x :: r, vs => stV σ mx vs x >>= fun v => runS σ mx r (vs ++ [v])
theorem runS_app {σ : Sy} {mx : Int} : ∀ (a b : List Step) (vs : List Int), runS σ mx (a ++ b) vs = runS σ mx a vs >>= runS σ mx b
  | [], b, vs => rfl
  | x :: a, b, vs => by
    show (stV σ mx vs x >>= fun v => runS σ mx (a ++ b) (vs ++ [v])) = (stV σ mx vs x >>= fun v => runS σ mx a (vs ++ [v])) >>= runS σ mx b
    cases stV σ mx vs x with
    | error e => rfl
    | ok v => exact runS_app a b _
theorem get_last {l : List Int} {z : Int} (v : Int) (r : List Int) (h : z = (l.length : Int)) : (l ++ (v :: r)).getD z.toNat 0 = v := by
  rw [h, Int.toNat_natCast, List.getD_eq_getElem?_getD, List.getElem?_append_right (Nat.le_refl _), Nat.sub_self]; rfl
theorem zA {a w n : Nat} (h : w + 1 = n) : (a : Int) + n - 1 = ((a + w : Nat) : Int) := by (first | with_reducible exact om250 h | omega)
theorem zB {a n m w : Nat} (h : w + 1 = m) : (a : Int) + n + m - 1 = ((a + n + w : Nat) : Int) := by (first | with_reducible exact om247 h | omega)
theorem zC {a b c d : Nat} (h : a + 1 = b) (h' : c + 1 = d) : a + 1 + (c + 1) + 1 = b + d + 1 := by (first | with_reducible exact om246 h h' | omega)
/-- a run of a term's steps: the error of the whole, or its value behind the values of its parts -/
inductive RunV (vs : List Int) (n : Nat) : Except Er Int → Except Er (List Int) → Prop
  | err {e} : RunV vs n (.error e) (.error e)
  | ok {ws v} : ws.length + 1 = n → RunV vs n (.ok v) (.ok (vs ++ (ws ++ [v])))
theorem RunV.bind {vs us : List Int} {n m : Nat} {a : Except Er Int} {b : Except Er (List Int)} {f : Int → Except Er Int} {g : List Int → Except Er (List Int)} (h : RunV vs n a b) (k : ∀ ws v, ws.length + 1 = n → RunV us m (f v) (g (vs ++ (ws ++ [v])))) : RunV us m (a >>= f) (b >>= g) := by
  cases h with
  | err => exact .err
  | ok hl => exact k _ _ hl
theorem RunV.last {vs ws us : List Int} {n : Nat} (x : Except Er Int) (h : us = vs ++ ws) (hl : ws.length + 1 = n) : RunV vs n x (x >>= fun v => .ok (us ++ [v])) := by
  cases x with
  | error e => exact .err
  | ok v => exact (show RunV vs n (.ok v) (.ok (us ++ [v])) from by rw [h, List.append_assoc]; exact .ok hl)
theorem run_post {σ : Sy} {mx : Int} : ∀ (t : Tm) (vs : List Int), RunV vs t.size (evT σ mx t) (runS σ mx (t.post vs.length) vs)
  | .num _, _ => .ok (ws := []) rfl
  | .at _, _ => .err
  | .var, _ => .err
  | .s1 f x, vs => by
    rw [show runS σ mx ((Tm.s1 f x).post vs.length) vs = runS σ mx (x.post vs.length) vs >>= runS σ mx [.app f [(vs.length : Int) + x.size - 1]] from runS_app _ _ _]
    refine (run_post x vs).bind (f := ap1 σ mx f) fun ws v hl => ?_
    show RunV vs _ _ (ap1 σ mx f ((vs ++ (ws ++ [v])).getD ((vs.length : Int) + x.size - 1).toNat 0) >>= fun u => .ok ((vs ++ (ws ++ [v])) ++ [u]))
    rw [← List.append_assoc, get_last v [] (by rw [List.length_append]; exact zA hl)]
    exact .last (ws := ws ++ [v]) _ (List.append_assoc ..) (by rw [List.length_append]; exact congrArg (· + 1) hl)
  | .s2 f x y, vs => by
    rw [show (Tm.s2 f x y).post vs.length = x.post vs.length ++ (y.post (vs.length + x.size) ++ [.app f [(vs.length : Int) + x.size - 1, (vs.length : Int) + x.size + y.size - 1]]) from List.append_assoc .., runS_app]
    refine (run_post x vs).bind (f := fun a => evT σ mx y >>= fun b => ap2 σ mx f a b) fun ws v hl => ?_
    rw [runS_app, show vs.length + x.size = (vs ++ (ws ++ [v])).length by rw [List.length_append, List.length_append, ← hl]; rfl]
    refine (run_post y (vs ++ (ws ++ [v]))).bind (us := vs) (f := fun b => ap2 σ mx f v b) fun ws2 v2 hl2 => ?_
    show RunV vs _ _ (ap2 σ mx f ((vs ++ (ws ++ [v]) ++ (ws2 ++ [v2])).getD ((vs.length : Int) + x.size - 1).toNat 0) ((vs ++ (ws ++ [v]) ++ (ws2 ++ [v2])).getD ((vs.length : Int) + x.size + y.size - 1).toNat 0) >>= fun u => .ok ((vs ++ (ws ++ [v]) ++ (ws2 ++ [v2])) ++ [u]))
    have e2 : (vs ++ (ws ++ [v]) ++ (ws2 ++ [v2])).getD ((vs.length : Int) + x.size - 1).toNat 0 = v := by
      rw [show vs ++ (ws ++ [v]) ++ (ws2 ++ [v2]) = (vs ++ ws) ++ (v :: (ws2 ++ [v2])) by rw [← List.append_assoc vs, List.append_assoc (vs ++ ws)]; rfl]
      exact get_last v _ (by rw [List.length_append]; exact zA hl)
    have e4 : (vs ++ (ws ++ [v]) ++ (ws2 ++ [v2])).getD ((vs.length : Int) + x.size + y.size - 1).toNat 0 = v2 := by
      rw [← List.append_assoc _ ws2]
      exact get_last v2 [] (by rw [List.length_append, List.length_append, List.length_append, ← hl]; exact zB hl2)
    rw [e2, e4]
    exact .last (ws := ws ++ [v] ++ (ws2 ++ [v2])) _ (List.append_assoc ..) (by rw [List.length_append, List.length_append, List.length_append]; exact zC hl hl2)
/-- a step that raises: so does the whole -/
theorem run_err {σ : Sy} {mx : Int} {t : Tm} {i : Nat} {vals : List Int} {s : Step} {e : Er} (h : runS σ mx ((t.post 0).take i) [] = .ok vals) (hs : (t.post 0)[i]? = some s) (he : stV σ mx vals s = .error e) : evT σ mx t = .error e := by
  have hr : runS σ mx (t.post 0) [] = .error e := by
    have e1 : t.post 0 = (t.post 0).take i ++ s :: (t.post 0).drop (i + 1) := by
      obtain ⟨hl, hg⟩ := List.getElem?_eq_some_iff.mp hs
      rw [← hg, List.getElem_cons_drop, List.take_append_drop]
    rw [e1, runS_app, h]
    show (stV σ mx vals s >>= _) = _
    rw [he]; rfl
  have q := run_post (σ := σ) (mx := mx) t []
  rw [show runS σ mx (t.post ([] : List Int).length) [] = .error e from hr] at q
  generalize evT σ mx t = z at q
  cases q; rfl
theorem run_next {σ : Sy} {mx : Int} {ss : List Step} {i : Nat} {vals : List Int} {s : Step} {v : Int} (h : runS σ mx (ss.take i) [] = .ok vals) (hs : ss[i]? = some s) (he : stV σ mx vals s = .ok v) : runS σ mx (ss.take (i + 1)) [] = .ok (vals ++ [v]) := by
  have e1 : ss.take (i + 1) = ss.take i ++ [s] := by
    rw [List.take_add_one, hs]; rfl
  rw [e1, runS_app, h]
  show (stV σ mx vals s >>= _) = _
  rw [he]; rfl
theorem run_done {σ : Sy} {mx : Int} {t : Tm} {vals : List Int} (h : runS σ mx (t.post 0) [] = .ok vals) : ∃ ws v, vals = ws ++ [v] ∧ evT σ mx t = .ok v := by
  have q := run_post (σ := σ) (mx := mx) t []
  rw [show runS σ mx (t.post ([] : List Int).length) [] = .ok vals from h] at q
  generalize evT σ mx t = z at q
  cases q; exact ⟨_, _, rfl, rfl⟩
theorem size_ok {v mx u : Int} (h : sizeE v mx = .ok u) (hm : mx ≤ 70) : u = v ∧ Builtin.Int.intBits u ≤ 70 := by
  unfold sizeE at h
  split at h
  · cases h
  · cases h; exact ⟨rfl, by (first | with_reducible exact om249 hm (by assumption) | omega)⟩
theorem bind_ok {α β : Type} {a : Except Er α} {f : α → Except Er β} {b : β} (h : (a >>= f) = .ok b) : ∃ x, a = .ok x ∧ f x = .ok b := by
  cases a with
  | error e => cases h
  | ok x => exact ⟨x, rfl, h⟩
theorem bits_ap1 {σ : Sy} {mx f v u : Int} (h : ap1 σ mx f v = .ok u) (hm : mx ≤ 70) : Builtin.Int.intBits u ≤ 70 := by
  obtain ⟨x, _, h2⟩ := bind_ok h
  exact (size_ok h2 hm).2
theorem bits_ap2 {σ : Sy} {mx f a b u : Int} (h : ap2 σ mx f a b = .ok u) (hm : mx ≤ 70) : Builtin.Int.intBits u ≤ 70 := by
  obtain ⟨x, _, h2⟩ := bind_ok h
  exact (size_ok h2 hm).2
theorem bits_evT {σ : Sy} {mx : Int} (hm : mx ≤ 70) : ∀ {t : Tm} {v : Int}, t.Good σ → evT σ mx t = .ok v → Builtin.Int.intBits v ≤ 70
  | .num i, v, hg, h => by
    cases h
    obtain ⟨g1, g2⟩ := hg
    refine intBits_le_iff.mpr ?_
    have e1 : (2 : Int) ^ 66 = 73786976294838206464 := by decide
    have e2 : (2 : Nat) ^ 70 = 1180591620717411303424 := by decide
    rw [e1] at g1 g2
    rw [e2]; (first | with_reducible exact om248 g1 g2 | omega)
  | .at n, v, hg, h => by cases h
  | .var, v, hg, h => by cases h
  | .s1 f x, v, hg, h => by
    obtain ⟨_, _, h2⟩ := bind_ok h
    exact bits_ap1 h2 hm
  | .s2 f x y, v, hg, h => by
    obtain ⟨_, _, h2⟩ := bind_ok h
    obtain ⟨_, _, h3⟩ := bind_ok h2
    exact bits_ap2 h3 hm
end Mine
namespace Mine
open PySem PySem.Calls PyProof.Rows PySem.Spec
/-- what waits: a cell that leads to a term, or a functor whose parts have been reckoned (of two parts, or of one) -/
inductive Ent where
  | node (c : Int × Int) (t : Tm) (as : List Nat)
  | fn (a : Nat) (f : Int) (two : Bool)
noncomputable def Ent.cell : Ent → Int × Int
  | .node c _ _ => c
  | .fn a _ _ => (6, (a : Int))
noncomputable def Ent.as : Ent → List Nat
  | .node _ _ as => as
  | .fn a _ _ => [a]
noncomputable def Ent.fresh : Ent → List Nat
  | .node _ _ as => as
  | .fn _ _ _ => []
noncomputable def Ent.w : Ent → Nat
  | .node _ t _ => 2 * t.size
  | .fn _ _ _ => 1
def Ent.Ok (σ : Sy) (hp : List (Int × Int)) : Ent → Prop
  | .node c t as => Lies hp c t as ∧ t.Good σ
  | .fn a f two => hp[a]? = some (6, f) ∧ FunOk σ f (if two = true then 2 else 1) (if two = true then bWords else uWords)
def EntsV (J : Led) : List Value → List Ent → Prop
  | tvs, [] => tvs = []
  | tvs, e :: r => ∃ tvs' a, tvs = tvs' ++ [.ref a] ∧ CellIn J a e.cell ∧ EntsV J tvs' r
theorem EntsV.mono {J J' : Led} (i : ∀ p ∈ J, p ∈ J') : ∀ {es : List Ent} {tvs : List Value}, EntsV J tvs es → EntsV J' tvs es
  | [], _, h => h
  | _ :: _, _, ⟨tvs', a, e, hc, hr⟩ => ⟨tvs', a, e, hc.mono i, hr.mono i⟩
theorem EntsV.len {J : Led} : ∀ {es : List Ent} {tvs : List Value}, EntsV J tvs es → tvs.length = es.length
  | [], _, h => by rw [show _ = [] from h]; rfl
  | _ :: _, _, ⟨tvs', a, e, hc, hr⟩ => by rw [e, List.length_append, hr.len]; rfl
def ValsV : List Value → List Int → Prop
  | vvs, [] => vvs = []
  | vvs, k :: r => ∃ vvs' t, vvs = vvs' ++ [.int k t] ∧ ValsV vvs' r
theorem ValsV.len : ∀ {vs : List Int} {vvs : List Value}, ValsV vvs vs → vvs.length = vs.length
  | [], _, h => by rw [show _ = [] from h]; rfl
  | _ :: _, _, ⟨vvs', t, e, hr⟩ => by rw [e, List.length_append, hr.len]; rfl
noncomputable def cont (σ : Sy) (mx : Int) : List Ent → List Int → Except Er Int
  | [], vs => .ok (vs.headD 0)
  | .node _ t _ :: r, vs => evT σ mx t >>= fun v => cont σ mx r (v :: vs)
  | .fn _ f false :: r, v :: vs => ap1 σ mx f v >>= fun u => cont σ mx r (u :: vs)
  | .fn _ f true :: r, b :: a :: vs => ap2 σ mx f a b >>= fun u => cont σ mx r (u :: vs)
  | _, _ => .ok 0
def wf : List Ent → Nat → Prop
  | [], n => n = 1
  | .node _ _ _ :: r, n => wf r (n + 1)
  | .fn _ _ false :: r, n + 1 => wf r (n + 1)
  | .fn _ _ true :: r, n + 2 => wf r (n + 1)
  | _, _ => False
noncomputable def wts (es : List Ent) : Nat := (es.map Ent.w).sum
noncomputable def ass (es : List Ent) : List Nat := es.flatMap Ent.as
noncomputable def fresh (es : List Ent) : List Nat := es.flatMap Ent.fresh
theorem fresh_sub {es : List Ent} : ∀ a ∈ fresh es, a ∈ ass es := by
  intro a h
  obtain ⟨e, he, ha⟩ := List.mem_flatMap.mp h
  refine List.mem_flatMap.mpr ⟨e, he, ?_⟩
  cases e with
  | node c t as => exact ha
  | fn a f two => cases ha
/-- a functor's cell: its parts, and itself behind them -/
theorem lies_str {σ : Sy} {mx : Int} {hp : List (Int × Int)} {A : Nat} {t : Tm} {as : List Nat} {f : Int} {ts : List Tm} (h : Lies hp (2, (A : Int)) t as) (hs : IsStr t f ts) (hg : t.Good σ) :
    hp[A]? = some (6, f) ∧ ∃ (two : Bool) (nds : List Ent), ts.length = (if two = true then 2 else 1) ∧ FunOk σ f (if two = true then 2 else 1) (if two = true then bWords else uWords) ∧ nds.length = ts.length ∧ (∀ (j : Nat) e, nds[j]? = some e → hp[A + 1 + j]? = some e.cell ∧ e.Ok σ hp) ∧ as = A :: ass nds ∧ fresh nds = ass nds ∧
      (∀ r vs, cont σ mx (.node (2, (A : Int)) t as :: r) vs = cont σ mx (nds ++ .fn A f two :: r) vs) ∧ (∀ r n, wf (.node (2, (A : Int)) t as :: r) n → wf (nds ++ .fn A f two :: r) n) ∧ wts nds + 2 = 2 * t.size := by
  cases hs with
  | @s1 _ x =>
    · obtain ⟨a, c, as, e, rfl, h1, h2, h3⟩ := h.fn
      obtain rfl : A = a := Int.ofNat.inj (Prod.mk.inj e).2
      refine ⟨h1, false, [.node c x as], rfl, hg.1, rfl, atC ⟨h2, h3, hg.2⟩ atN, by simp [ass, Ent.as], by simp [ass, fresh, Ent.as, Ent.fresh], fun r vs => ?_, fun r n h => h, (by show 2 * x.size + 0 + 2 = 2 * (x.size + 1); (first | with_reducible exact om238 | with_reducible exact on36 | omega))⟩
      · show (evT σ mx x >>= ap1 σ mx f) >>= _ = evT σ mx x >>= _
        cases evT σ mx x <;> rfl
  | @s2 _ x y =>
    · obtain ⟨a, c, d, as, bs, e, rfl, h1, h2, h3, h4, h5⟩ := h.fn
      obtain rfl : A = a := Int.ofNat.inj (Prod.mk.inj e).2
      refine ⟨h1, true, [.node c x as, .node d y bs], rfl, hg.1, rfl, atC ⟨h2, h4, hg.2.1⟩ (atC ⟨h3, h5, hg.2.2⟩ atN), by simp [ass, Ent.as], by simp [ass, fresh, Ent.as, Ent.fresh], fun r vs => ?_, fun r n h => h, by show 2 * x.size + (2 * y.size + 0) + 2 = 2 * (x.size + y.size + 1); (first | with_reducible exact om238 | with_reducible exact on36 | omega)⟩
      · show (evT σ mx x >>= fun a => evT σ mx y >>= fun b => ap2 σ mx f a b) >>= _ = evT σ mx x >>= _
        cases evT σ mx x with
        | error e => rfl
        | ok v =>
          show (evT σ mx y >>= fun b => ap2 σ mx f v b) >>= _ = evT σ mx y >>= _
          cases evT σ mx y <;> rfl
theorem val_stored {kvs : List (Int × Value)} {a b : Int} {v : Value} (h : b ≠ a) (hb : (valueAt kvs b).isSome = false) : (valueAt (stored kvs a v) b).isSome = false := by
  have h0 : ∀ kv ∈ kvs, ¬ (kv.1 = b) := by
    intro kv hkv e
    unfold valueAt at hb
    cases hf : kvs.find? (fun kv => kv.1 = b) with
    | none => have := List.find?_eq_none.mp hf kv hkv; simp [e] at this
    | some z => rw [hf] at hb; cases hb
  unfold valueAt stored
  have hn : ∀ (l : List (Int × Value)), (∀ kv ∈ l, ¬ (kv.1 = b)) → ((l.find? (fun kv => kv.1 = b)).map (·.2)).isSome = false := by
    intro l hl
    rw [List.find?_eq_none.mpr (by intro z hz; simp [hl z hz])]; rfl
  split
  · refine hn _ fun kv hkv => ?_
    obtain ⟨z, hz, e⟩ := List.mem_map.mp hkv
    split at e
    · rw [← e]; exact h0 z hz
    · rw [← e]; exact h0 z hz
  · refine hn _ fun kv hkv => ?_
    rcases List.mem_append.mp hkv with hk | hk
    · exact h0 kv hk
    · rw [List.mem_singleton] at hk; subst hk; exact Ne.symm h
theorem stored_len {kvs : List (Int × Value)} {a : Int} {v : Value} : (stored kvs a v).length ≤ kvs.length + 1 := by
  unfold stored
  split
  · simp
  · simp
theorem uw_ev : ∀ x ∈ uWords, isEv x 1 = true := by decide
theorem bw_ev : ∀ x ∈ bWords, isEv x 2 = true := by decide
/-- the machine, but for its store -/
inductive MAt (ma st sy : Addr) (mx : Int) (xs : List Value) (M : Led) : Prop
  | mk : ∀ (dm : Addr), ∀ (xl : Addr), ∀ (cd : Addr), ∀ (rt : Addr), ∀ (bg : Addr), ∀ (hs : Nat → Int), ∀ (ks : Nat → Tok), ∀ (ws : Nat → Value), ∀ (u1 : Tok), ∀ (n : Nat), ∀ (nb : Nat), M = [(xl, listOf xs.toArray n), (ma, instObj 788 dm), (dm, dictOf [⟨hs 0, .str "symbols" (ks 0), .ref sy⟩, ⟨hs 1, .str "code" (ks 1), .ref cd⟩, ⟨hs 2, .str "max_heap" (ks 2), ws 2⟩, ⟨hs 3, .str "occurs" (ks 3), .bool true⟩, ⟨hs 4, .str "max_bits" (ks 4), .int mx u1⟩, ⟨hs 5, .str "store" (ks 5), .ref st⟩, ⟨hs 6, .str "x" (ks 6), .ref xl⟩,       ⟨hs 7, .str "p" (ks 7), ws 7⟩, ⟨hs 8, .str "cp" (ks 8), ws 8⟩, ⟨hs 9, .str "e" (ks 9), ws 9⟩, ⟨hs 10, .str "b" (ks 10), ws 10⟩, ⟨hs 11, .str "b0" (ks 11), ws 11⟩, ⟨hs 12, .str "mode" (ks 12), ws 12⟩, ⟨hs 13, .str "s" (ks 13), ws 13⟩, ⟨hs 14, .str "guard" (ks 14), ws 14⟩, ⟨hs 15, .str "roots" (ks 15), .ref rt⟩, ⟨hs 16, .str "bags" (ks 16), .ref bg⟩, ⟨hs 17, .str "collect_wanted" (ks 17), ws 17⟩] 18),       (cd, listOf #[] 0), (rt, listOf #[] 0), (bg, dictOf [] nb)] → MAt ma st sy mx xs M
end Mine
namespace Mine
open PySem PySem.Calls PyProof.Rows PySem.Spec
theorem m_inst {ma st sy : Addr} {mx : Int} {xs : List Value} {M : Led} {G : Prop} (hM : MAt ma st sy mx xs M) (k : ∀ (dm xl cd rt bg : Addr) (hs : Nat → Int) (ks : Nat → Tok) (ws : Nat → Value) (u1 : Tok) (n : Nat),
    (ma, instObj 788 dm) ∈ M → (dm, dictOf [⟨hs 0, .str "symbols" (ks 0), .ref sy⟩, ⟨hs 1, .str "code" (ks 1), .ref cd⟩, ⟨hs 2, .str "max_heap" (ks 2), ws 2⟩, ⟨hs 3, .str "occurs" (ks 3), .bool true⟩, ⟨hs 4, .str "max_bits" (ks 4), .int mx u1⟩, ⟨hs 5, .str "store" (ks 5), .ref st⟩, ⟨hs 6, .str "x" (ks 6), .ref xl⟩,
      ⟨hs 7, .str "p" (ks 7), ws 7⟩, ⟨hs 8, .str "cp" (ks 8), ws 8⟩, ⟨hs 9, .str "e" (ks 9), ws 9⟩, ⟨hs 10, .str "b" (ks 10), ws 10⟩, ⟨hs 11, .str "b0" (ks 11), ws 11⟩, ⟨hs 12, .str "mode" (ks 12), ws 12⟩, ⟨hs 13, .str "s" (ks 13), ws 13⟩, ⟨hs 14, .str "guard" (ks 14), ws 14⟩, ⟨hs 15, .str "roots" (ks 15), .ref rt⟩, ⟨hs 16, .str "bags" (ks 16), .ref bg⟩, ⟨hs 17, .str "collect_wanted" (ks 17), ws 17⟩] 18) ∈ M → (xl, listOf xs.toArray n) ∈ M → G) : G := by
  obtain ⟨dm, xl, cd, rt, bg, hs, ks, ws, u1, n, nb, rfl⟩ := hM
  exact k dm xl cd rt bg hs ks ws u1 n (.tail _ (.head _)) (.tail _ (.tail _ (.head _))) (.head _)
def EvM (m : Str → Option Value) (st sy ma ka ta va : Addr) : Prop := m (Str.ofString "store") = some (.ref st) ∧ m (Str.ofString "symbols") = some (.ref sy) ∧ m (Str.ofString "m") = some (.ref ma) ∧ m (Str.ofString "known") = some (.ref ka) ∧ m (Str.ofString "todo") = some (.ref ta) ∧ m (Str.ofString "values") = some (.ref va)
/-- what is known of what waits (ents) and of the values at hand -/
inductive EvS (σ : Sy) (mx : Int) (res : Except Er Int) (hp : List (Int × Int)) (K0 : Nat) (kvs : List (Int × Value)) (ents : List Ent) (vals : List Int) : Prop
  | mk (hb : ∀ k ∈ vals, Builtin.Int.intBits k ≤ 70) (hOk : ∀ e ∈ ents, e.Ok σ hp) (hnd : (ass ents).Nodup) (hfr : ∀ a ∈ fresh ents, (valueAt kvs (a : Int)).isSome = false) (hc : cont σ mx ents vals = res) (hwf : wf ents vals.length) (hk0 : kvs.length + wts ents ≤ K0) (hv0 : vals.length + wts ents ≤ K0) : EvS σ mx res hp K0 kvs ents vals
theorem EvS.el {σ : Sy} {mx : Int} {res : Except Er Int} {hp : List (Int × Int)} {K0 : Nat} {kvs : List (Int × Value)} {ents : List Ent} {vals : List Int} (h : EvS σ mx res hp K0 kvs ents vals) {G : Prop} (k : (∀ k ∈ vals, Builtin.Int.intBits k ≤ 70) → (∀ e ∈ ents, e.Ok σ hp) → (ass ents).Nodup → (∀ a ∈ fresh ents, (valueAt kvs (a : Int)).isSome = false) → cont σ mx ents vals = res → wf ents vals.length → kvs.length + wts ents ≤ K0 → vals.length + wts ents ≤ K0 → G) : G := h.casesOn k
section
variable {σ : Sy} {mx : Int} {res : Except Er Int} {hp : List (Int × Int)} {K0 : Nat} {kvs : List (Int × Value)} {ents : List Ent} {vals : List Int} {e : Ent}
theorem EvS.wf (h : EvS σ mx res hp K0 kvs ents vals) : Mine.wf ents vals.length := h.el fun _ _ _ _ _ h _ _ => h
theorem EvS.ct (h : EvS σ mx res hp K0 kvs ents vals) : cont σ mx ents vals = res := h.el fun _ _ _ _ h _ _ _ => h
theorem EvS.k0 (h : EvS σ mx res hp K0 kvs ents vals) : kvs.length + wts ents ≤ K0 := h.el fun _ _ _ _ _ _ h _ => h
theorem EvS.v0 (h : EvS σ mx res hp K0 kvs ents vals) : vals.length + wts ents ≤ K0 := h.el fun _ _ _ _ _ _ _ h => h
theorem EvS.ok (h : EvS σ mx res hp K0 kvs (e :: ents) vals) : e.Ok σ hp := h.el fun _ h _ _ _ _ _ _ => h _ (.head _)
theorem EvS.bits (h : EvS σ mx res hp K0 kvs ents vals) : ∀ k ∈ vals, Builtin.Int.intBits k ≤ 70 := h.el fun h _ _ _ _ _ _ _ => h
theorem EvS.fr {c : Int × Int} {t : Tm} {as : List Nat} {a : Nat} (h : EvS σ mx res hp K0 kvs (.node c t as :: ents) vals) (ha : a ∈ as) : (valueAt kvs (a : Int)).isSome = false := h.el fun _ _ _ h _ _ _ _ => h a (List.mem_append_left _ ha)
theorem EvS.kz {t : Tm} (h : EvS σ mx res hp (2 * t.size) kvs ents vals) (hs : t.size < 400) : kvs.length ≤ 100000 := by have := h.k0; (first | with_reducible exact on8 hs this | omega)
end
inductive EvJ (w : World) (ma st sy : Addr) (σ : Sy) (mx : Int) (res : Except Er Int) (hp : List (Int × Int)) (M H S J R : Led) (K0 n : Nat) (m : Str → Option Value) (led : Led) : Prop
  | mk : ∀ ta, ∀ va, ∀ ka, ∀ Jn, ∀ tvs, ∀ nt, ∀ vvs, ∀ nv, ∀ es, ∀ nk, ∀ kvs, ∀ ents, ∀ vals, EvM m st sy ma ka ta va → TupL Jn → EntsV (Jn ++ J) tvs ents → ValsV vvs vals → (dictOf es nk).IsDictOf (PySem.intKind PG w) kvs → (ka == sysModules) = false → EvS σ mx res hp K0 kvs ents vals → n = wts ents → led = M ++ (H ++ (S ++ ((Jn ++ J) ++ ([(ta, listOf tvs.toArray nt)] ++ ([(va, listOf vvs.toArray nv)] ++ ([(ka, dictOf es nk)] ++ R)))))) → EvJ w ma st sy σ mx res hp M H S J R K0 n m led
/-- while a functor's parts are pushed -/
inductive EvI (w : World) (ma st sy ka ta va ad : Addr) (M H S J R Jn : Led) (tvs' vvs : List Value) (nv A K9 : Nat) (kvs : List (Int × Value)) (nds ents : List Ent) (i : Nat) (m : Str → Option Value) (led : Led) : Prop
  | mk : ∀ Jn', ∀ tvs9, ∀ nt9, ∀ es9, ∀ nk9, ∀ kv9, EvM m st sy ma ka ta va → m (Str.ofString "item") = some (.ref ad) → ((∀ p ∈ Jn, p ∈ Jn')) → TupL Jn' → tvs9.length ≤ tvs'.length + 1 + i → EntsV (Jn' ++ J) tvs9 (nds.drop (K9 - i) ++ ents) → (dictOf es9 nk9).IsDictOf (PySem.intKind PG w) (stored kvs (A : Int) kv9) → led = M ++ (H ++ (S ++ ((Jn' ++ J) ++ ([(ta, listOf tvs9.toArray nt9)] ++ ([(va, listOf vvs.toArray nv)] ++ ([(ka, dictOf es9 nk9)] ++ R)))))) → EvI w ma st sy ka ta va ad M H S J R Jn tvs' vvs nv A K9 kvs nds ents i m led
theorem w_pos : ∀ e : Ent, 1 ≤ e.w
  | .node _ t _ => by have := size_pos t; show 1 ≤ 2 * t.size; (first | with_reducible exact om136 this | omega)
  | .fn _ _ _ => Nat.le_refl _
theorem len_wts : ∀ es : List Ent, es.length ≤ wts es
  | [] => Nat.zero_le _
  | e :: es => by
    have := len_wts es
    have h1 := w_pos e
    show es.length + 1 ≤ e.w + wts es
    (first | with_reducible exact om127 this h1 | omega)
theorem fresh_stored {kvs : List (Int × Value)} {a : Nat} {v : Value} {ents : List Ent} (hn : ∀ b ∈ fresh ents, b ≠ a) (hfr : ∀ b ∈ fresh ents, (valueAt kvs (b : Int)).isSome = false) : ∀ b ∈ fresh ents, (valueAt (stored kvs (a : Int) v) (b : Int)).isSome = false :=
  fun b hb => val_stored (by have := hn b hb; omega) (hfr b hb)
section
variable {w : World} {ma st sy ta va ka : Addr} {σ : Sy} {mx : Int} {res : Except Er Int} {hp : List (Int × Int)} {M H S J R Jn : Led} {K0 : Nat} {m : Str → Option Value} {tvs vvs : List Value} {nt nv nk : Nat} {es : List DictEntry} {kvs : List (Int × Value)} {ents : List Ent} {vals : List Int} {a : Nat} {f v b v1 v2 : Int} {u9 : Tok} {x : Str}
theorem ev_next1 (hm : EvM m st sy ma ka ta va)
    (hJn : TupL Jn) (hE : EntsV (Jn ++ J) tvs ents) (hV : ValsV vvs vals) {kv9 : Value} (hkd : (dictOf es nk).IsDictOf (PySem.intKind PG w) (stored kvs (a : Int) kv9)) (hklo : (ka == sysModules) = false) (hs : EvS σ mx res hp K0 kvs (Ent.fn a f false :: ents) (v :: vals)) (hx : σ.txt f = x) (q1 : unE x v = .ok v1) (q2 : sizeE v1 mx = .ok v2) (hmx : mx ≤ 70)
    {led : Led} (hl : led = M ++ (H ++ (S ++ ((Jn ++ J) ++ ([(ta, listOf tvs.toArray nt)] ++ ([(va, listOf (vvs ++ [Value.int v2 u9]).toArray nv)] ++ ([(ka, dictOf es nk)] ++ R))))))) :
    EvJ w ma st sy σ mx res hp M H S J R K0 (wts ents) m led := by
  refine hs.el fun hb hOk hnd hfr hc hwf hk0 hv0 => ?_
  have hap : ap1 σ mx f v = .ok v2 := by unfold ap1; rw [hx, q1]; exact q2
  have hwe : wts (Ent.fn a f false :: ents) = 1 + wts ents := rfl
  have hnd' : a ∉ ass ents ∧ (ass ents).Nodup := List.nodup_cons.mp hnd
  have hsl := stored_len (kvs := kvs) (a := (a : Int)) (v := kv9)
  refine ⟨ta, va, ka, Jn, tvs, nt, _, nv, es, nk, _, ents, v2 :: vals, hm, hJn, hE, ⟨_, _, rfl, hV⟩, hkd, hklo, ⟨?_, fun e he => hOk e (.tail _ he), hnd'.2, fresh_stored (fun b hb e => hnd'.1 (e ▸ fresh_sub b hb)) hfr, ?_, hwf, by (first | with_reducible exact om132 hv0 hwe | with_reducible exact om125 hk0 hwe hsl | omega), by simp only [List.length_cons] at hv0 ⊢; (first | with_reducible exact om132 hv0 hwe | with_reducible exact om125 hk0 hwe hsl | omega)⟩, rfl, hl⟩
  · intro k hk
    rcases List.mem_cons.mp hk with rfl | hk
    · exact (size_ok q2 hmx).2
    · exact hb k (.tail _ hk)
  · rw [← hc]
    show _ = ap1 σ mx f v >>= _
    rw [hap]; rfl
theorem ev_next2 (hm : EvM m st sy ma ka ta va)
    (hJn : TupL Jn) (hE : EntsV (Jn ++ J) tvs ents) (hV : ValsV vvs vals) {kv9 : Value} (hkd : (dictOf es nk).IsDictOf (PySem.intKind PG w) (stored kvs (a : Int) kv9)) (hklo : (ka == sysModules) = false) (hs : EvS σ mx res hp K0 kvs (Ent.fn a f true :: ents) (b :: v :: vals)) (hx : σ.txt f = x) (q1 : binE x v b mx = .ok v1) {J2 : Led} (hJ2 : TupL J2) (q2 : sizeE v1 mx = .ok v2) (hmx : mx ≤ 70)
    {led : Led} (hl : led = M ++ (H ++ (S ++ (J2 ++ ((Jn ++ J) ++ ([(ta, listOf tvs.toArray nt)] ++ ([(va, listOf (vvs ++ [Value.int v2 u9]).toArray nv)] ++ ([(ka, dictOf es nk)] ++ R)))))))) :
    EvJ w ma st sy σ mx res hp M H S J R K0 (wts ents) m led := by
  refine hs.el fun hb hOk hnd hfr hc hwf hk0 hv0 => ?_
  have hap : ap2 σ mx f v b = .ok v2 := by unfold ap2; rw [hx, q1]; exact q2
  have hwe : wts (Ent.fn a f true :: ents) = 1 + wts ents := rfl
  have hnd' : a ∉ ass ents ∧ (ass ents).Nodup := List.nodup_cons.mp hnd
  have hsl := stored_len (kvs := kvs) (a := (a : Int)) (v := kv9)
  refine ⟨ta, va, ka, J2 ++ Jn, tvs, nt, vvs ++ [Value.int v2 u9], nv, es, nk, stored kvs (a : Int) kv9, ents, v2 :: vals, hm, tupL_app hJ2 hJn, hE.mono (fun p h => by rw [List.append_assoc]; exact List.mem_append_right _ h), ⟨_, _, rfl, hV⟩, hkd, hklo, ⟨?_, fun e he => hOk e (.tail _ he), hnd'.2, fresh_stored (fun b hb e => hnd'.1 (e ▸ fresh_sub b hb)) hfr, ?_, hwf, by (first | with_reducible exact om125 hk0 hwe hsl | with_reducible exact om128 hv0 hwe | omega), by simp only [List.length_cons] at hv0 ⊢; (first | with_reducible exact om125 hk0 hwe hsl | with_reducible exact om128 hv0 hwe | omega)⟩, rfl, by rw [hl]; simp only [List.append_assoc]⟩
  · intro k hk
    rcases List.mem_cons.mp hk with rfl | hk
    · exact (size_ok q2 hmx).2
    · exact hb k (.tail _ (.tail _ hk))
  · rw [← hc]
    show _ = ap2 σ mx f v b >>= _
    rw [hap]; rfl
end
theorem ev_leaf {w : World} {ma st sy ta va ka : Addr} {σ : Sy} {mx : Int} {res : Except Er Int} {hp : List (Int × Int)} {M H S J R Jn : Led} {K0 : Nat} {m : Str → Option Value} {tvs vvs : List Value} {nt nv nk : Nat} {es : List DictEntry} {kvs : List (Int × Value)} {ents : List Ent} {vals : List Int} {v : Int} {u9 : Tok} {c : Int × Int} {as : List Nat}
    (hm : EvM m st sy ma ka ta va)
    (hJn : TupL Jn) (hE : EntsV (Jn ++ J) tvs ents) (hV : ValsV vvs vals) (hkd : (dictOf es nk).IsDictOf (PySem.intKind PG w) kvs) (hklo : (ka == sysModules) = false) {t : Tm} (hs : EvS σ mx res hp K0 kvs (Ent.node c t as :: ents) vals) (e : t = .num v) (hmx : mx ≤ 70) :
    EvJ w ma st sy σ mx res hp M H S J R K0 (wts ents) m (M ++ (H ++ (S ++ ((Jn ++ J) ++ ([(ta, listOf tvs.toArray nt)] ++ ([(va, listOf (vvs ++ [Value.int v u9]).toArray nv)] ++ ([(ka, dictOf es nk)] ++ R))))))) := by
  subst e
  refine hs.el fun hb hOk hnd hfr hc hwf hk0 hv0 => ?_
  have hwe : wts (Ent.node c (.num v) as :: ents) = 2 + wts ents := rfl
  have hnd' := List.nodup_append.mp (show (as ++ ass ents).Nodup from hnd)
  refine ⟨ta, va, ka, Jn, tvs, nt, _, nv, es, nk, kvs, ents, v :: vals, hm, hJn, hE, ⟨_, _, rfl, hV⟩, hkd, hklo, ⟨?_, fun e he => hOk e (.tail _ he), hnd'.2.1, fun b hb => hfr b (List.mem_append_right _ hb), hc, hwf, by (first | with_reducible exact om126 hk0 hwe | with_reducible exact om133 hv0 hwe | omega), by simp only [List.length_cons]; (first | with_reducible exact om126 hk0 hwe | with_reducible exact om133 hv0 hwe | omega)⟩, rfl, rfl⟩
  intro k hk
  rcases List.mem_cons.mp hk with rfl | hk
  · exact bits_evT (σ := σ) (mx := mx) hmx (hOk _ (.head _)).2 rfl
  · exact hb k hk
theorem der_num {hp : List (Int × Int)} {c : Int × Int} {i : Int} {t : Tm} {as : List Nat} (h : Lies hp c t as) (e : t = .num i) : c = (5, i) := by
  have q := h.fn; rw [e] at q; exact q
theorem der_at {hp : List (Int × Int)} {c : Int × Int} {i : Int} {t : Tm} {as : List Nat} (h : Lies hp c t as) (e : t = .at i) : c = (4, i) := by
  have q := h.fn; rw [e] at q; exact q
theorem der_var {hp : List (Int × Int)} {c : Int × Int} {t : Tm} {as : List Nat} (h : Lies hp c t as) (e : t = .var) : ∃ p : Nat, c = (0, (p : Int)) := by
  have q := h.fn; rw [e] at q; exact q.imp fun _ q => q.1
theorem der_str {hp : List (Int × Int)} {c : Int × Int} {t : Tm} {as : List Nat} {f : Int} {ts : List Tm} (hs : IsStr t f ts) (h : Lies hp c t as) : ∃ A : Nat, c = (2, (A : Int)) ∧ Der hp 0 (2, (A : Int)) (2, (A : Int)) := by
  have q := h.fn
  cases hs with
  | s1 => exact q.elim fun a q => q.elim fun _ q => q.elim fun _ q => ⟨a, q.1, .val (show (2 : Int) ≠ 0 by decide) (show (2 : Int) ≠ 1 by decide)⟩
  | s2 => exact q.elim fun a q => q.elim fun _ q => q.elim fun _ q => q.elim fun _ q => q.elim fun _ q => ⟨a, q.1, .val (show (2 : Int) ≠ 0 by decide) (show (2 : Int) ≠ 1 by decide)⟩
theorem drop_down {nds : List Ent} {i k : Nat} {e : Ent} (hk : nds.length = k) (hi : i < k) (he : nds[k - 1 - i]? = some e) : nds.drop (k - (i + 1)) = e :: nds.drop (k - i) := by
  obtain ⟨hl, hg⟩ := List.getElem?_eq_some_iff.mp he
  rw [show k - (i + 1) = k - 1 - i by (first | with_reducible exact om129 hi | with_reducible exact om137 hi | omega), ← List.getElem_cons_drop hl, hg, show k - 1 - i + 1 = k - i by (first | with_reducible exact om129 hi | with_reducible exact om137 hi | omega)]
theorem ev_str {w : World} {ma st sy ta va ka : Addr} {σ : Sy} {mx : Int} {res : Except Er Int} {hp : List (Int × Int)} {M H S J R Jn Jn' : Led} {K0 : Nat} {m : Str → Option Value} {tvs vvs : List Value} {nt nv nk A : Nat} {es : List DictEntry} {kvs : List (Int × Value)} {ents nds : List Ent} {vals : List Int} {kv9 : Value} {t : Tm} {as : List Nat} {f : Int} {two : Bool}
    (hm : EvM m st sy ma ka ta va)
    (hJn : TupL Jn') (hE : EntsV (Jn' ++ J) tvs (nds ++ Ent.fn A f two :: ents)) (hV : ValsV vvs vals) {c : Int × Int} (hkd : (dictOf es nk).IsDictOf (PySem.intKind PG w) (stored kvs (A : Int) kv9)) (hklo : (ka == sysModules) = false) (hs : EvS σ mx res hp K0 kvs (Ent.node c t as :: ents) vals) (hcq : c = (2, (A : Int)))
    (hA : hp[A]? = some (6, f)) (hF : FunOk σ f (if two = true then 2 else 1) (if two = true then bWords else uWords)) (hn1 : ∀ (j : Nat) e, nds[j]? = some e → hp[A + 1 + j]? = some e.cell ∧ e.Ok σ hp) (has : as = A :: ass nds) (hfn : fresh nds = ass nds)
    (hcc : ∀ r vs, cont σ mx (.node (2, (A : Int)) t as :: r) vs = cont σ mx (nds ++ .fn A f two :: r) vs) (hww : ∀ r n, wf (.node (2, (A : Int)) t as :: r) n → wf (nds ++ .fn A f two :: r) n) (hwt : wts nds + 2 = 2 * t.size) :
    (wts (nds ++ Ent.fn A f two :: ents) < wts (Ent.node c t as :: ents)) ∧ EvJ w ma st sy σ mx res hp M H S J R K0 (wts (nds ++ Ent.fn A f two :: ents)) m (M ++ (H ++ (S ++ ((Jn' ++ J) ++ ([(ta, listOf tvs.toArray nt)] ++ ([(va, listOf vvs.toArray nv)] ++ ([(ka, dictOf es nk)] ++ R))))))) := by
  subst has hcq
  refine hs.el fun hb hOk hnd hfr hc hwf hk0 hv0 => ?_
  have hw1 : wts (Ent.node (2, (A : Int)) t (A :: ass nds) :: ents) = 2 * t.size + wts ents := rfl
  have hw2 : wts (nds ++ Ent.fn A f two :: ents) = wts nds + (1 + wts ents) := by unfold wts; rw [List.map_append, List.sum_append]; rfl
  have hsl := stored_len (kvs := kvs) (a := (A : Int)) (v := kv9)
  have e1 : ass (Ent.node (2, (A : Int)) t (A :: ass nds) :: ents) = A :: (ass nds ++ ass ents) := by simp [ass, Ent.as]
  rw [e1] at hnd
  have hnd1 := List.nodup_cons.mp hnd
  have e2 : ass (nds ++ Ent.fn A f two :: ents) = ass nds ++ A :: ass ents := by simp [ass, Ent.as]
  have e3 : fresh (nds ++ Ent.fn A f two :: ents) = fresh nds ++ fresh ents := by simp [fresh, Ent.fresh]
  have e4 : fresh (Ent.node (2, (A : Int)) t (A :: ass nds) :: ents) = A :: (ass nds ++ fresh ents) := by simp [fresh, Ent.fresh, ass]
  refine ⟨by (first | with_reducible exact om130 e | with_reducible exact om131 hwt hw1 hw2 | with_reducible exact om134 hwt hk0 hw1 hw2 hsl | with_reducible exact om135 hwt hv0 hw1 hw2 | omega), ta, va, ka, Jn', tvs, nt, vvs, nv, es, nk, _, nds ++ Ent.fn A f two :: ents, vals, hm, hJn, hE, hV, hkd, hklo, ⟨hb, ?_, ?_, ?_, by rw [← hcc]; exact hc, hww _ _ hwf, by (first | with_reducible exact om130 e | with_reducible exact om131 hwt hw1 hw2 | with_reducible exact om134 hwt hk0 hw1 hw2 hsl | with_reducible exact om135 hwt hv0 hw1 hw2 | omega), by (first | with_reducible exact om130 e | with_reducible exact om131 hwt hw1 hw2 | with_reducible exact om134 hwt hk0 hw1 hw2 hsl | with_reducible exact om135 hwt hv0 hw1 hw2 | omega)⟩, rfl, rfl⟩
  · intro e he
    rcases List.mem_append.mp he with he | he
    · obtain ⟨j, hj⟩ := List.getElem?_of_mem he
      exact (hn1 j e hj).2
    · rcases List.mem_cons.mp he with rfl | he
      · exact ⟨hA, hF⟩
      · exact hOk e (.tail _ he)
  · rw [e2]; exact (List.perm_middle.nodup_iff).mpr hnd
  · rw [e3, hfn]
    intro b hb9
    refine val_stored ?_ (hfr b (by rw [e4]; exact .tail _ hb9))
    intro e
    have e' : b = A := by (first | with_reducible exact om130 e | with_reducible exact om131 hwt hw1 hw2 | with_reducible exact om134 hwt hk0 hw1 hw2 hsl | with_reducible exact om135 hwt hv0 hw1 hw2 | omega)
    subst e'
    rcases List.mem_append.mp hb9 with h | h
    · exact hnd1.1 (List.mem_append_left _ h)
    · exact hnd1.1 (List.mem_append_right _ (fresh_sub _ h))
theorem ev_begin {σ : Sy} {mx : Int} {hp : List (Int × Int)} {ct : Int × Int} {t : Tm} {as : List Nat} (hL : Lies hp ct t as) (hnd : as.Nodup) (hg : t.Good σ) : EvS σ mx (evT σ mx t) hp (2 * t.size) [] [.node ct t as] [] :=
  ⟨fun _ h => (nomatch h), fun e he => by rw [List.mem_singleton] at he; subst he; exact ⟨hL, hg⟩, by simpa [ass, Ent.as] using hnd, fun _ _ => rfl, by show (evT σ mx t >>= fun v => Except.ok _) = _; cases evT σ mx t <;> rfl, rfl, by simp [wts, Ent.w], by simp [wts, Ent.w]⟩
theorem lies_der {hp : List (Int × Int)} {c : Int × Int} {t : Tm} {as : List Nat} (h : Lies hp c t as) : Der hp 0 c c ∧ c.1 ≠ 1 := by
  induction h with
  | var h1 => exact ⟨.self (Int.natCast_nonneg _) h1, (by decide : (0 : Int) ≠ 1)⟩
  | num => exact ⟨.val (by decide : (5 : Int) ≠ 0) (by decide : (5 : Int) ≠ 1), (by decide : (5 : Int) ≠ 1)⟩
  | «at» => exact ⟨.val (by decide : (4 : Int) ≠ 0) (by decide : (4 : Int) ≠ 1), (by decide : (4 : Int) ≠ 1)⟩
  | s1 _ _ _ _ => exact ⟨.val (by decide : (2 : Int) ≠ 0) (by decide : (2 : Int) ≠ 1), (by decide : (2 : Int) ≠ 1)⟩
  | s2 _ _ _ _ _ _ _ => exact ⟨.val (by decide : (2 : Int) ≠ 0) (by decide : (2 : Int) ≠ 1), (by decide : (2 : Int) ≠ 1)⟩
theorem lies_ne6 {hp : List (Int × Int)} {c : Int × Int} {t : Tm} {as : List Nat} (h : Lies hp c t as) : c.1 ≠ 6 := by
  induction h with
  | var _ => exact (by decide : (0 : Int) ≠ 6)
  | num => exact (by decide : (5 : Int) ≠ 6)
  | «at» => exact (by decide : (4 : Int) ≠ 6)
  | s1 _ _ _ _ => exact (by decide : (2 : Int) ≠ 6)
  | s2 _ _ _ _ _ _ _ => exact (by decide : (2 : Int) ≠ 6)
end Mine
namespace Mine
open PySem PySem.Calls PyProof.Rows PySem.Spec
def isvar_R_T (ct : Int × Int) (J R : Led) (K7 : Value → Led → Prop) : Prop := K7 (.bool (ct.1 == 0 || ct.1 == 1)) (J ++ R)
def isvar_R (ct : Int × Int) (J R : Led) (r : Value) (led' : Led) : Prop := ∀ K7 : Value → Led → Prop, isvar_R_T ct J R K7 → K7 r led'
theorem isvar_R_mk {ct : Int × Int} {J R : Led} {r : Value} {led' : Led} : led' = J ++ R → r = .bool (ct.1 == 0 || ct.1 == 1) → isvar_R ct J R r led' := by
  intro a0 a1
  subst a0
  subst a1
  exact fun K7 k7 => k7
theorem isvar_R_pt {ct : Int × Int} {J R : Led} (K7 : Value → Led → Prop) (k7 : isvar_R_T ct J R K7) (r : Value) (led' : Led) (h7 : isvar_R ct J R r led') : K7 r led' := h7 K7 k7
theorem isvar_tells {w : World} {c : Addr} {ct : Int × Int} {J R : Led} (hc : CellIn J c ct) : Tells w 609 [.ref c] 1 (J ++ R) (isvar_R ct J R) NoErr := by
  refine hidE ?_; simp (disch := k_dflt (
    refine hidW ?_
    intro dp un gd cn cs L a ccd cl outer A₀ base h₀ p loose mean mg mb m s Q E B F X N T hk dm hd hu hret hthr
    (refine Gen fun gG9 gK9 => ?_; obtain ⟨t1, t2, kc, hc⟩ := hc; refine gK9 ?_; clear gK9 gG9)
    rename Option (List Code) => gd53Z
    (revert X; k_fill; intro X; refine wpAny_call ?_; k_dflt ktr_enter; walk_at "loc"; refine genT ?_; intro tk9)
    walk_at "st9"
    all_goals (refine' hret _ _ _ _ ?F ?N ?D ?P; (case F => k_asm); (case N => k_asm); (case D => first | assumption | walk_at "dm"); (case P => exact isvar_R_mk rfl (by simp [*]))))) only [↓hidL]
def occ_R_T (J H R : Led) (K7 : Value → Led → Prop) : Prop := K7 (.bool false) (H ++ (J ++ R))
def occ_R (J H R : Led) (r : Value) (led' : Led) : Prop := ∀ K7 : Value → Led → Prop, occ_R_T J H R K7 → K7 r led'
theorem occ_R_mk {J H R : Led} {r : Value} {led' : Led} : led' = H ++ (J ++ R) → r = .bool false → occ_R J H R r led' := by
  intro a0 a1
  subst a0
  subst a1
  exact fun K7 k7 => k7
theorem occ_R_pt {J H R : Led} (K7 : Value → Led → Prop) (k7 : occ_R_T J H R K7) (r : Value) (led' : Led) (h7 : occ_R J H R r led') : K7 r led' := h7 K7 k7
theorem occ_tells {w : World} {st sy c v : Addr} {hp : List (Int × Int)} {i k : Int} {J H R : Led} (hH : StoreAt st sy hp J H) (hc : CellIn J c (0, i)) (hv : CellIn J v (5, k)) (hz : hp.length < 100000) :
    Tells w 630 [.ref st, .ref c, .ref v] 3 (H ++ (J ++ R)) (occ_R J H R) NoErr := by
  refine hidE ?_; simp (disch := k_dflt (
    refine hidW ?_
    intro dp un gd cn cs L a ccd cl outer A₀ base h₀ p loose mean mg mb m s Q E B F X N T hk dm hd hu hret hthr
    (refine Gen fun gG9 gK9 => ?_; obtain ⟨t1, t2, kc, hcc⟩ := hc; refine gK9 ?_; clear gK9 gG9)
    (refine Gen fun gG9 gK9 => ?_; obtain ⟨t3, t4, kv, hvv⟩ := hv; refine gK9 ?_; clear gK9 gG9)
    dsimp only at hcc hvv
    have hv : CellIn J v (5, k) := ⟨_, _, _, hvv⟩
    refine store_inst hH ?_; intro dst hl stk trl h1 h2 h3 h4 h5 h6 h7 k1 k2 k3 k4 k5 k6 k7 u1 u2 u3 vs n1 hI1 hI2 hI3 hV
    rename Option (List Code) => gd54Z
    k_with "mine call" => guard_hyp gd54Z; first
      | k_dflt (refine' go2n (e := ptId) (deref_tells hH hv hz (.val (by simp) (by simp))) ?B316 ?F316 ?X316 ?N316 ?T316 ?hk316 ?d316 ?r316 ?rr316 ?hd316 ?hu316 ?_; (case B316 => k_asm); (case F316 => k_asm); (case X316 => k_asm); (case N316 => k_asm); (case T316 => k_asm); (case hk316 => first | exact rfl | assumption); (case d316 => walk_at "dmx"); (case r316 => walk_at "rot"); (case rr316 => walk_at "rot"); (case hd316 => walk_at "hdx"); (case hu316 => walk_at "hux"); intro r9 led9 hR9 h9 tk9 F9 N9 D9; (refine Gen fun gG9 gK9 => ?_; obtain ⟨f9, a9, g9, t9, t8, k9, hc9⟩ := hR9; subst f9 g9; refine gK9 ?_; clear gK9 gG9); have hc8 : CellIn J a9 (5, k) := ⟨_, _, _, hc9⟩; (try dsimp only at hc9); (try dsimp only [List.cons_append, List.nil_append] at N9 D9); (try k_sweep); (try dsimp only))
      | k_dflt (refine' go2n (e := iscomp_R_pt) (iscomp_tells hH hc8) ?B317 ?F317 ?X317 ?N317 ?T317 ?hk317 ?d317 ?r317 ?rr317 ?hd317 ?hu317 ?_; (case B317 => k_asm); (case F317 => k_asm); (case X317 => k_asm); (case N317 => k_asm); (case T317 => k_asm); (case hk317 => first | exact rfl | assumption); (case d317 => walk_at "dmx"); (case r317 => walk_at "rot"); (case rr317 => walk_at "rot"); (case hd317 => walk_at "hdx"); (case hu317 => walk_at "hux"); intro  h9 tk9 F9 N9 D9; (try dsimp only [List.cons_append, List.nil_append] at N9 D9); (try k_sweep); (try dsimp only))
    (revert X; k_fill; intro X; refine wpAny_call ?_; k_dflt ktr_enter; walk_at "loc"; refine genT ?_; intro tk9)
    walk_at "st9"
    all_goals first | exact absurd (show ((5 : Int), k) = ((0 : Int), i) by assumption) (by simp) | (refine' out2 (P := H) (P2 := J) hret ?F319 ?N319 ?D319 ?r319 ?rr319 ?P; (case F319 => k_asm); (case N319 => k_asm); (case D319 => walk_at "dmx"); (case r319 => walk_at "rot"); (case rr319 => walk_at "rot"); (case P => exact occ_R_mk rfl rfl)))) only [↓hidL]
def bindck_R_T (st sy : Addr) (hp : List (Int × Int)) (i k : Int) (J R : Led) (K7 : Value → Led → Prop) : Prop := ∀ H', StoreAt st sy (hp.set i.toNat (5, k)) J H' → K7 (.bool true) (H' ++ (J ++ R))
def bindck_R (st sy : Addr) (hp : List (Int × Int)) (i k : Int) (J R : Led) (r : Value) (led' : Led) : Prop := ∀ K7 : Value → Led → Prop, bindck_R_T st sy hp i k J R K7 → K7 r led'
theorem bindck_R_mk {st sy : Addr} {hp : List (Int × Int)} {i k : Int} {J R : Led} {r : Value} {led' : Led} : ∀ H', StoreAt st sy (hp.set i.toNat (5, k)) J H' → led' = H' ++ (J ++ R) → r = .bool true → bindck_R st sy hp i k J R r led' := by
  intro _ a0 a1 a2
  subst a1
  subst a2
  exact fun K7 k7 => k7 _ a0
theorem bindck_R_pt {st sy : Addr} {hp : List (Int × Int)} {i k : Int} {J R : Led} (K7 : Value → Led → Prop) (k7 : bindck_R_T st sy hp i k J R K7) (r : Value) (led' : Led) (h7 : bindck_R st sy hp i k J R r led') : K7 r led' := h7 K7 k7
theorem bindck_tells {w : World} {st sy c v : Addr} {hp : List (Int × Int)} {i k : Int} {J H R : Led} (hH : StoreAt st sy hp J H) (hc : CellIn J c (0, i)) (hv : CellIn J v (5, k)) (hz : hp.length < 90000) (h0 : 0 ≤ i) (hi : i < (hp.length : Int)) :
    Tells w 623 [.ref st, .ref c, .ref v, .bool true] 4 (H ++ (J ++ R)) (bindck_R st sy hp i k J R) NoErr := by
  refine hidE ?_; simp (disch := k_dflt (
    refine hidW ?_
    intro dp un gd cn cs L a ccd cl outer A₀ base h₀ p loose mean mg mb m s Q E B F X N T hk dm hd hu hret hthr
    refine store_inst hH ?_; intro dst hl stk trl h1 h2 h3 h4 h5 h6 h7 k1 k2 k3 k4 k5 k6 k7 u1 u2 u3 vs n1 hI1 hI2 hI3 hV
    rename Option (List Code) => gd55Z
    k_with "mine call" => guard_hyp gd55Z; first
      | k_dflt (refine' go2n (e := occ_R_pt) (occ_tells hH hc hv (Nat.lt_trans hz (by decide))) ?B321 ?F321 ?X321 ?N321 ?T321 ?hk321 ?d321 ?r321 ?rr321 ?hd321 ?hu321 ?_; (case B321 => k_asm); (case F321 => k_asm); (case X321 => k_asm); (case N321 => k_asm); (case T321 => k_asm); (case hk321 => first | exact rfl | assumption); (case d321 => walk_at "dmx"); (case r321 => walk_at "rot"); (case rr321 => walk_at "rot"); (case hd321 => walk_at "hdx"); (case hu321 => walk_at "hux"); intro  h9 tk9 F9 N9 D9; (try dsimp only [List.cons_append, List.nil_append] at N9 D9); (try k_sweep); (try dsimp only))
      | k_dflt (refine' go2n (e := bind_R_pt) (bind_tells hH hc hv hz h0 hi) ?B322 ?F322 ?X322 ?N322 ?T322 ?hk322 ?d322 ?r322 ?rr322 ?hd322 ?hu322 ?_; (case B322 => k_asm); (case F322 => k_asm); (case X322 => k_asm); (case N322 => k_asm); (case T322 => k_asm); (case hk322 => first | exact rfl | assumption); (case d322 => walk_at "dmx"); (case r322 => walk_at "rot"); (case rr322 => walk_at "rot"); (case hd322 => walk_at "hdx"); (case hu322 => walk_at "hux"); intro H9 hH9 h9 tk9 F9 N9 D9; (try dsimp only [List.cons_append, List.nil_append] at N9 D9); (try k_sweep); (try dsimp only))
    (revert X; k_fill; intro X; refine wpAny_call ?_; k_dflt ktr_enter; walk_at "loc"; refine genT ?_; intro tk9)
    walk_at "st9"
    all_goals (refine' out2 (P := _) (P2 := J) hret ?F324 ?N324 ?D324 ?r324 ?rr324 ?P; (case F324 => k_asm); (case N324 => k_asm); (case D324 => walk_at "dmx"); (case r324 => walk_at "rot"); (case rr324 => walk_at "rot"); (case P => exact bindck_R_mk _ hH9 rfl rfl)))) only [↓hidL]
end Mine
namespace Mine
open PySem PySem.Calls PyProof.Rows PySem.Spec
def pairset_R_T (H R : Led) (K7 : Value → Led → Prop) : Prop := ∀ ps, ∀ G, K7 (.ref ps) (G ++ (H ++ R))
def pairset_R (H R : Led) (r : Value) (led' : Led) : Prop := ∀ K7 : Value → Led → Prop, pairset_R_T H R K7 → K7 r led'
theorem pairset_R_mk {H R : Led} {r : Value} {led' : Led} : ∀ ps, ∀ G, r = .ref ps → led' = G ++ (H ++ R) → pairset_R H R r led' := by
  intro _ _ a0 a1
  subst a0
  subst a1
  exact fun K7 k7 => k7 _ _
theorem pairset_R_pt {H R : Led} (K7 : Value → Led → Prop) (k7 : pairset_R_T H R K7) (r : Value) (led' : Led) (h7 : pairset_R H R r led') : K7 r led' := h7 K7 k7
theorem pairset_tells {w : World} {st sy : Addr} {hp : List (Int × Int)} {J H R : Led} (hH : StoreAt st sy hp J H) (hz : hp.length < 100000) : Tells w 577 [.ref st] 4 (H ++ R) (pairset_R H R) NoErr := by
  refine hidE ?_; simp (disch := k_dflt (
    refine hidW ?_
    intro dp un gd cn cs L a ccd cl outer A₀ base h₀ p loose mean mg mb m s Q E B F X N T hk dm hd hu hret hthr
    refine store_inst hH ?_; intro dst hl stk trl h1 h2 h3 h4 h5 h6 h7 k1 k2 k3 k4 k5 k6 k7 u1 u2 u3 vs n1 hI1 hI2 hI3 hV
    have hvl := hV.1
    have hvz : vs.length < 100000 := by walk_at "ar"
    rename Option (List Code) => gd56Z
    revert X
    k_fill
    intro X
    k_dflt (refine' call_cls ?k1 ?k2 ?k3 ?k4 ?k5 ?k6 ?_; (case k1 => k_asm); (case k2 => k_asm); (case k3 => k_asm); (case k4 => k_is); (case k5 => k_is); (case k6 => k_is); k_whole; intro x' d' h' F' N' l1 l2)
    have dm1 := Dm.newN2 N' l1 l2 dm (by first | rfl | assumption)
    k_lt l1
    k_lt2 l2
    k_sweep
    k_dflt ktr_enter
    walk_at "st9"
    refine' hret _ _ _ _ ?F8 ?N8 ?D8 ?P8
    (case F8 => k_asm)
    (case N8 => k_asm)
    (case D8 => walk_at "dm")
    (case P8 => exact pairset_R_mk _ ([_, _, _]) rfl rfl))) only [↓hidL]
def UniJ (st wa : Addr) (Pr : Led → Prop) (c v : Addr) (J H R : Led) (n : Nat) (m : Str → Option Value) (led : Led) : Prop :=
  m (Str.ofString "store") = some (.ref st) ∧ m (Str.ofString "work") = some (.ref wa) ∧ m (Str.ofString "occurs") = some (.bool true) ∧ ∃ k ta q H', led = H' ++ (J ++ ([(wa, listOf (if n = 1 then [.ref ta] else []).toArray k)] ++ ([(ta, tupO [.ref c, .ref v] q)] ++ R))) ∧ n < 2 ∧ (n = 1 → H' = H) ∧ (n = 0 → Pr H')
theorem TurnW.rotG {h₀ : Heap} {L : Addr} {s₁ : Shared} {J : Nat → (Str → Option Value) → Led → Prop} {Q : Flow → Shared → Prop} {h' : Heap} {tk n n' : Nat} {m' : Str → Option Value} {led0 led1 G : Led}
    (F : Fr h₀ L h' m') (N : News h₀ L h' led0) (d : Dm led0) (p : led0.Perm (led1 ++ G)) (hj : J n' m' led1) (hn : n' < n) : TurnW h₀ L s₁ J Q n .next { s₁ with heap := h', toks := tk } := TurnW.rot F (News.sub (News.perm p N) fun _ h => List.mem_append_left _ h) (Dm.sub (Dm.perm p d) (List.sublist_append_left _ _)) hn hj
theorem TurnW.rotGC {h₀ : Heap} {L : Addr} {s₁ : Shared} {J : Nat → (Str → Option Value) → Led → Prop} {Q : Flow → Shared → Prop} {h' : Heap} {tk n n' : Nat} {m' : Str → Option Value} {led0 led1 G : Led}
    (F : Fr h₀ L h' m') (N : News h₀ L h' led0) (d : Dm led0) (p : led0.Perm (led1 ++ G)) (hj : J n' m' led1) (hn : n' < n) : TurnW h₀ L s₁ J Q n .cont { s₁ with heap := h', toks := tk } := TurnW.rotC F (News.sub (News.perm p N) fun _ h => List.mem_append_left _ h) (Dm.sub (Dm.perm p d) (List.sublist_append_left _ _)) hn hj
inductive UP (st sy : Addr) (hp : List (Int × Int)) (J H : Led) (ct : Int × Int) (k : Int) : Bool → Led → Prop
  | bind {i H'} : ct = (0, i) → StoreAt st sy (hp.set i.toNat (5, k)) J H' → UP st sy hp J H ct k true H'
  | same : ct = (5, k) → UP st sy hp J H ct k true H
  | diff {u} : ct = (5, u) → ¬ u = k → UP st sy hp J H ct k false H
inductive uni_R (st sy : Addr) (hp : List (Int × Int)) (ct : Int × Int) (k : Int) (J H R : Led) (r : Value) (led' : Led) : Prop
  | mk : ∀ H', ∀ b, UP st sy hp J H ct k b H' → led' = H' ++ (J ++ R) → r = .bool b → uni_R st sy hp ct k J H R r led'
def uni_R_T (st sy : Addr) (hp : List (Int × Int)) (ct : Int × Int) (k : Int) (J H R : Led) (K7 : Value → Led → Prop) : Prop := ∀ H', ∀ b, UP st sy hp J H ct k b H' → K7 (.bool b) (H' ++ (J ++ R))
theorem uni_tells {w : World} {st sy c v : Addr} {hp : List (Int × Int)} {ct : Int × Int} {k : Int} {J H R : Led} (hH : StoreAt st sy hp J H) (hc : CellIn J c ct) (hv : CellIn J v (5, k)) (hz : hp.length < 90000) (hca : (∃ i, ct = (0, i) ∧ 0 ≤ i ∧ hp[i.toNat]? = some (0, i)) ∨ ∃ u, ct = (5, u)) :
    Tells w 616 [.ref st, .ref c, .ref v, .bool true] 8 (H ++ (J ++ R)) (uni_R st sy hp ct k J H R) NoErr := by
  refine hidE ?_; simp (disch := k_dflt (
    refine hidW ?_
    intro dp un gd cn cs L a ccd cl outer A₀ base h₀ p loose mean mg mb m s Q E B F X N T hk dm hd hu hret hthr
    refine store_inst hH ?_; intro dst hl stk trl h1 h2 h3 h4 h5 h6 h7 k1 k2 k3 k4 k5 k6 k7 u1 u2 u3 vs n1 hI1 hI2 hI3 hV
    have hder : Der hp 0 ct ct := by
      rcases hca with ⟨i, rfl, h0, hi⟩ | ⟨u, rfl⟩
      · exact .self h0 hi
      · exact .val (by simp) (by simp)
    rename Option (List Code) => gd57Z; (k_with "ar2" => guard_hyp gd57Z; first | with_reducible exact om138 this | with_reducible exact (om278 h9 h8 (by assumption)).elim | with_reducible exact om32 hp1)
    k_with "mine call" => guard_hyp gd57Z; (k_dflt (refine' go1n (e := pairset_R_pt) (pairset_tells hH (Nat.lt_trans hz (by decide))) ?B327 ?F327 ?X327 ?N327 ?T327 ?hk327 ?d327 ?r327 ?hd327 ?hu327 ?_; (case B327 => k_asm); (case F327 => k_asm); (case X327 => k_asm); (case N327 => k_asm); (case T327 => k_asm); (case hk327 => first | exact rfl | assumption); (case d327 => walk_at "dmx"); (case r327 => walk_at "rot"); (case hd327 => walk_at "hdx"); (case hu327 => walk_at "hux"); intro ps G9 h9 tk9 F9 N9 D9; (try dsimp only [List.cons_append, List.nil_append] at N9 D9); (try k_sweep); (try dsimp only)))
    k_with "exec While Compare cons nil" => guard_hyp gd57Z; (k_dflt (refine' while_ledG (n₀ := 1) (J := UniJ st _ (UP st sy hp J H ct k true) c v J H R) ?F7 ?N7 ?D7 ?p7 ?J7 ?_; (case F7 => k_asm); (case N7 => k_asm); (case D7 => walk_at "dm"); (case p7 => (refine' rots5G (P := H) (P2 := J) (P3 := [(_, listOf #[_] _)]) (P4 := [(_, tupO [.ref c, .ref v] _)]) (R := R) ?ra ?rb ?rc ?rd ?re; (case ra => walk_at "rot"); (case rb => walk_at "rot"); (case rc => walk_at "rot"); (case rd => walk_at "rot"); (case re => walk_at "rot"))); (case J7 => exact ⟨by first | rfl | assumption, by first | rfl | assumption, by first | rfl | assumption, _, _, _, _, rfl, by walk_at "ar", fun _ => rfl, fun h => by cases h⟩)); intro n m₁ led₁ h tk hJ F1 N1 D1; refine Hold.of ?_)
    (revert X; k_fill; intro X; refine wpAny_call ?_; k_dflt ktr_enter; walk_at "loc"; refine genT ?_; intro tk9)
    walk_at "st9"
    refine Hold.mk ?_
    (refine Gen fun gG9 gK9 => ?_; obtain ⟨w1, w2, w3, k9, ta, q, H', rfl, hn2, hA, hB⟩ := hJ; refine gK9 ?_; clear gK9 gG9)
    dsimp only [List.cons_append, List.nil_append] at N1 D1
    have hn3 : n = 0 ∨ n = 1 := by walk_at "ar"
    rcases hn3 with rfl | rfl
    · rw [if_neg (by decide)] at N1 D1
      k_sweep
      walk_at "st9"
      (refine' outP (G := _) hret ?F8 ?N8 ?D8 ?p8 ?R8; (case F8 => k_asm); (case N8 => k_asm); (case D8 => walk_at "dm"); (case p8 => (refine' rots3G (P := H') (P2 := J) (P3 := []) (R := R) ?ra ?rb ?rc ?rd; (case ra => walk_at "rot"); (case rb => walk_at "rot"); (case rc => exact Rot.nil'); (case rd => walk_at "rot"))); (case R8 => exact ⟨H', true, hB rfl, rfl, rfl⟩))
    · have hH' := hA rfl
      subst hH'
      (refine Gen fun gG9 gK9 => ?_; obtain ⟨p0, hp0, e0⟩ : ∃ p : List Value, p = [] ∧ [Value.ref ta] = p ++ [Value.ref ta] := ⟨[], rfl, rfl⟩; refine gK9 ?_; clear gK9 gG9)
      have hp1 : p0.length < 1000 := by rw [hp0]; decide
      rw [if_pos rfl, e0] at N1 D1
      k_with "mine call" => guard_hyp gd57Z; first
        | k_dflt (refine' go2n (e := deref_R_pt) (deref_tells hH hc (Nat.lt_trans hz (by decide)) hder) ?B329 ?F329 ?X329 ?N329 ?T329 ?hk329 ?d329 ?r329 ?rr329 ?hd329 ?hu329 ?_; (case B329 => k_asm); (case F329 => k_asm); (case X329 => k_asm); (case N329 => k_asm); (case T329 => k_asm); (case hk329 => first | exact rfl | assumption); (case d329 => walk_at "dmx"); (case r329 => walk_at "rot"); (case rr329 => walk_at "rot"); (case hd329 => walk_at "hdx"); (case hu329 => walk_at "hux"); intro a9 hc8 h9 tk9 F9 N9 D9; (try dsimp only [List.cons_append, List.nil_append] at N9 D9); (try k_sweep); (try dsimp only))
        | k_dflt (refine' go2n (e := deref_R_pt) (deref_tells hH hv (Nat.lt_trans hz (by decide)) (.val (by simp) (by simp))) ?B330 ?F330 ?X330 ?N330 ?T330 ?hk330 ?d330 ?r330 ?rr330 ?hd330 ?hu330 ?_; (case B330 => k_asm); (case F330 => k_asm); (case X330 => k_asm); (case N330 => k_asm); (case T330 => k_asm); (case hk330 => first | exact rfl | assumption); (case d330 => walk_at "dmx"); (case r330 => walk_at "rot"); (case rr330 => walk_at "rot"); (case hd330 => walk_at "hdx"); (case hu330 => walk_at "hux"); intro b9 hc7 h9 tk9 F9 N9 D9; (try dsimp only [List.cons_append, List.nil_append] at N9 D9); (try k_sweep); (try dsimp only); refine Hold.of ?_)
      k_sweep
      walk_at "st9"
      all_goals first
        | (exfalso; have h9 := List.length_append (as := p0) (bs := [Value.ref ta]); have h8 : [Value.ref ta].length = 1 := rfl; walk_at "ar")
        | skip
      refine Hold.mk ?_
      (refine Gen fun gG9 gK9 => ?_; obtain ⟨t9, t8, k9, hc9⟩ := id hc8; refine gK9 ?_; clear gK9 gG9)
      (refine Gen fun gG9 gK9 => ?_; obtain ⟨t6, t5, k6, hc6⟩ := id hc7; refine gK9 ?_; clear gK9 gG9)
      (try dsimp only at hc6)
      rcases hca with ⟨i, rfl, h0, hi⟩ | ⟨u, rfl⟩
      · (try dsimp only at hc9)
        have hilt : i < (hp.length : Int) := by have := (List.getElem?_eq_some_iff.mp hi).1; walk_at "ar"
        k_with "mine call" => guard_hyp gd57Z; first
          | k_dflt (refine' go1n (e := isvar_R_pt) (isvar_tells hc8) ?B331 ?F331 ?X331 ?N331 ?T331 ?hk331 ?d331 ?r331 ?hd331 ?hu331 ?_; (case B331 => k_asm); (case F331 => k_asm); (case X331 => k_asm); (case N331 => k_asm); (case T331 => k_asm); (case hk331 => first | exact rfl | assumption); (case d331 => walk_at "dmx"); (case r331 => walk_at "rot"); (case hd331 => walk_at "hdx"); (case hu331 => walk_at "hux"); intro  h9 tk9 F9 N9 D9; (try dsimp only [List.cons_append, List.nil_append] at N9 D9); (try k_sweep); (try dsimp only))
          | k_dflt (refine' go1n (e := isvar_R_pt) (isvar_tells hc7) ?B332 ?F332 ?X332 ?N332 ?T332 ?hk332 ?d332 ?r332 ?hd332 ?hu332 ?_; (case B332 => k_asm); (case F332 => k_asm); (case X332 => k_asm); (case N332 => k_asm); (case T332 => k_asm); (case hk332 => first | exact rfl | assumption); (case d332 => walk_at "dmx"); (case r332 => walk_at "rot"); (case hd332 => walk_at "hdx"); (case hu332 => walk_at "hux"); intro  h9 tk9 F9 N9 D9; (try dsimp only [List.cons_append, List.nil_append] at N9 D9); (try k_sweep); (try dsimp only))
          | k_dflt (refine' go2n (e := bindck_R_pt) (bindck_tells hH hc8 hc7 hz h0 (by assumption)) ?B333 ?F333 ?X333 ?N333 ?T333 ?hk333 ?d333 ?r333 ?rr333 ?hd333 ?hu333 ?_; (case B333 => k_asm); (case F333 => k_asm); (case X333 => k_asm); (case N333 => k_asm); (case T333 => k_asm); (case hk333 => first | exact rfl | assumption); (case d333 => walk_at "dmx"); (case r333 => walk_at "rot"); (case rr333 => walk_at "rot"); (case hd333 => walk_at "hdx"); (case hu333 => walk_at "hux"); intro H9 hH9 h9 tk9 F9 N9 D9; (try dsimp only [List.cons_append, List.nil_append] at N9 D9); (try k_sweep); (try dsimp only))
        walk_at "st9"
        all_goals first
          | exact absurd (show ((0 : Int), i) = ((5 : Int), k) by assumption) (by simp)
          | skip
        subst hp0
        (refine' TurnW.rotG (n' := 0) (G := _) ?F8 ?N8 ?D8 ?p8 ?R8 ?z8; (case F8 => k_asm); (case N8 => k_asm); (case D8 => walk_at "dm"); (case p8 => (refine' rots5G (P := H9) (P2 := J) (P3 := [(_, listOf #[] _)]) (P4 := [(ta, _)]) (R := R) ?ra ?rb ?rc ?rd ?re; (case ra => walk_at "rot"); (case rb => walk_at "rot"); (case rc => walk_at "rot"); (case rd => walk_at "rot"); (case re => walk_at "rot"))); (case R8 => exact ⟨w1, w2, w3, _, _, _, _, rfl, by walk_at "ar", fun h => (by cases h), fun _ => .bind rfl hH9⟩); (case z8 => walk_at "ar"))
      · (try dsimp only at hc9)
        k_with "mine call" => guard_hyp gd57Z; first
          | k_dflt (refine' go1n (e := isvar_R_pt) (isvar_tells hc8) ?B334 ?F334 ?X334 ?N334 ?T334 ?hk334 ?d334 ?r334 ?hd334 ?hu334 ?_; (case B334 => k_asm); (case F334 => k_asm); (case X334 => k_asm); (case N334 => k_asm); (case T334 => k_asm); (case hk334 => first | exact rfl | assumption); (case d334 => walk_at "dmx"); (case r334 => walk_at "rot"); (case hd334 => walk_at "hdx"); (case hu334 => walk_at "hux"); intro  h9 tk9 F9 N9 D9; (try dsimp only [List.cons_append, List.nil_append] at N9 D9); (try k_sweep); (try dsimp only))
          | k_dflt (refine' go1n (e := isvar_R_pt) (isvar_tells hc7) ?B335 ?F335 ?X335 ?N335 ?T335 ?hk335 ?d335 ?r335 ?hd335 ?hu335 ?_; (case B335 => k_asm); (case F335 => k_asm); (case X335 => k_asm); (case N335 => k_asm); (case T335 => k_asm); (case hk335 => first | exact rfl | assumption); (case d335 => walk_at "dmx"); (case r335 => walk_at "rot"); (case hd335 => walk_at "hdx"); (case hu335 => walk_at "hux"); intro  h9 tk9 F9 N9 D9; (try dsimp only [List.cons_append, List.nil_append] at N9 D9); (try k_sweep); (try dsimp only))
          | k_dflt (refine' go2n (e := iscomp_R_pt) (iscomp_tells hH hc8) ?B336 ?F336 ?X336 ?N336 ?T336 ?hk336 ?d336 ?r336 ?rr336 ?hd336 ?hu336 ?_; (case B336 => k_asm); (case F336 => k_asm); (case X336 => k_asm); (case N336 => k_asm); (case T336 => k_asm); (case hk336 => first | exact rfl | assumption); (case d336 => walk_at "dmx"); (case r336 => walk_at "rot"); (case rr336 => walk_at "rot"); (case hd336 => walk_at "hdx"); (case hu336 => walk_at "hux"); intro  h9 tk9 F9 N9 D9; (try dsimp only [List.cons_append, List.nil_append] at N9 D9); (try k_sweep); (try dsimp only))
        walk_at "st9"
        · have huk : u = k := (Prod.mk.inj (show ((5 : Int), u) = ((5 : Int), k) by assumption)).2
          subst hp0
          (refine' TurnW.rotGC (n' := 0) (G := _) ?F8 ?N8 ?D8 ?p8 ?R8 ?z8; (case F8 => k_asm); (case N8 => k_asm); (case D8 => walk_at "dm"); (case p8 => (refine' rots5G (P := H') (P2 := J) (P3 := [(_, listOf #[] _)]) (P4 := [(ta, _)]) (R := R) ?ra ?rb ?rc ?rd ?re; (case ra => walk_at "rot"); (case rb => walk_at "rot"); (case rc => walk_at "rot"); (case rd => walk_at "rot"); (case re => walk_at "rot"))); (case R8 => exact ⟨w1, w2, w3, _, _, _, _, rfl, by walk_at "ar", fun h => (by cases h), fun _ => .same (by rw [huk])⟩); (case z8 => walk_at "ar"))
        · have huk : ¬ u = k := fun e => (show ¬ ((5 : Int), u) = ((5 : Int), k) by assumption) (by rw [e])
          (refine' outP (G := _) hret ?F8 ?N8 ?D8 ?p8 ?R8; (case F8 => k_asm); (case N8 => k_asm); (case D8 => walk_at "dm"); (case p8 => (refine' rots3G (P := H') (P2 := J) (P3 := []) (R := R) ?ra ?rb ?rc ?rd; (case ra => walk_at "rot"); (case rb => walk_at "rot"); (case rc => exact Rot.nil'); (case rd => walk_at "rot"))); (case R8 => exact ⟨_, false, .diff rfl huk, rfl, rfl⟩)))) only [↓hidL]
inductive uniA_R (st sy : Addr) (hp : List (Int × Int)) (i k : Int) (J R : Led) (r : Value) (led' : Led) : Prop
  | mk : ∀ H', StoreAt st sy (hp.set i.toNat (5, k)) J H' → led' = H' ++ (J ++ R) → r = .bool true → uniA_R st sy hp i k J R r led'
def uniA_R_T (st sy : Addr) (hp : List (Int × Int)) (i k : Int) (J R : Led) (K7 : Value → Led → Prop) : Prop := ∀ H', StoreAt st sy (hp.set i.toNat (5, k)) J H' → K7 (.bool true) (H' ++ (J ++ R))
theorem uniA_R_pt {st sy : Addr} {hp : List (Int × Int)} {i k : Int} {J R : Led} (K7 : Value → Led → Prop) (k7 : uniA_R_T st sy hp i k J R K7) (r : Value) (led' : Led) (h7 : uniA_R st sy hp i k J R r led') : K7 r led' := by
  obtain ⟨_, a0, a1, a2⟩ := h7
  subst a1
  subst a2
  exact k7 _ a0
theorem uniA_tells {w : World} {st sy c v : Addr} {hp : List (Int × Int)} {i k : Int} {J H R : Led} (hH : StoreAt st sy hp J H) (hc : CellIn J c (0, i)) (hv : CellIn J v (5, k)) (hz : hp.length < 90000) (h0 : 0 ≤ i) (hi : hp[i.toNat]? = some (0, i)) :
    Tells w 616 [.ref st, .ref c, .ref v, .bool true] 8 (H ++ (J ++ R)) (uniA_R st sy hp i k J R) NoErr :=
  tells_imp (uni_tells hH hc hv hz (.inl ⟨i, rfl, h0, hi⟩)) fun r l ⟨H', b, hU, e, q⟩ => by
    cases hU with
    | bind e1 h => cases e1; exact ⟨H', h, e, q⟩
    | same e1 => exact absurd (congrArg Prod.fst e1) (show ¬ ((0 : Int) = 5) by decide)
    | diff e1 _ => exact absurd (congrArg Prod.fst e1) (show ¬ ((0 : Int) = 5) by decide)
inductive uniB_R (u k : Int) (J H R : Led) (r : Value) (led' : Led) : Prop
  | mk : led' = H ++ (J ++ R) → r = .bool (decide (u = k)) → uniB_R u k J H R r led'
def uniB_R_T (u k : Int) (J H R : Led) (K7 : Value → Led → Prop) : Prop := K7 (.bool (decide (u = k))) (H ++ (J ++ R))
theorem uniB_R_pt {u k : Int} {J H R : Led} (K7 : Value → Led → Prop) (k7 : uniB_R_T u k J H R K7) (r : Value) (led' : Led) (h7 : uniB_R u k J H R r led') : K7 r led' := by
  obtain ⟨a0, a1⟩ := h7
  subst a0
  subst a1
  exact k7
theorem uniB_tells {w : World} {st sy c v : Addr} {hp : List (Int × Int)} {u k : Int} {J H R : Led} (hH : StoreAt st sy hp J H) (hc : CellIn J c (5, u)) (hv : CellIn J v (5, k)) (hz : hp.length < 90000) :
    Tells w 616 [.ref st, .ref c, .ref v, .bool true] 8 (H ++ (J ++ R)) (uniB_R u k J H R) NoErr :=
  tells_imp (uni_tells hH hc hv hz (.inr ⟨u, rfl⟩)) fun r l ⟨H', b, hU, e, q⟩ => by
    cases hU with
    | bind e1 h => exact absurd (congrArg Prod.fst e1) (show ¬ ((5 : Int) = 0) by decide)
    | same e1 => cases e1; exact ⟨e, by rw [q, decide_eq_true rfl]⟩
    | diff e1 h => cases e1; exact ⟨e, by rw [q, decide_eq_false h]⟩
end Mine
namespace Mine
open PySem PySem.Calls PyProof.Rows PySem.Spec
noncomputable def nxt (xs : List Value) (k : Nat) (v : Value) : List Value := if k < xs.length then xs.set k v else xs ++ [v]
inductive setx_R (ma st sy c : Addr) (mx : Int) (xs : List Value) (k : Nat) (R : Led) (r : Value) (led' : Led) : Prop
  | mk : ∀ M', MAt ma st sy mx (nxt xs k (.ref c)) M' → led' = M' ++ R → r = .none → setx_R ma st sy c mx xs k R r led'
def setx_R_T (ma st sy c : Addr) (mx : Int) (xs : List Value) (k : Nat) (R : Led) (K7 : Value → Led → Prop) : Prop := ∀ M', MAt ma st sy mx (nxt xs k (.ref c)) M' → K7 (.none) (M' ++ R)
theorem setx_R_pt {ma st sy c : Addr} {mx : Int} {xs : List Value} {k : Nat} {R : Led} (K7 : Value → Led → Prop) (k7 : setx_R_T ma st sy c mx xs k R K7) (r : Value) (led' : Led) (h7 : setx_R ma st sy c mx xs k R r led') : K7 r led' := by
  obtain ⟨_, a0, a1, a2⟩ := h7
  subst a1
  subst a2
  exact k7 _ a0
theorem setx_tells {w : World} {ma st sy c : Addr} {mx : Int} {xs : List Value} {k : Nat} {t : Tok} {M R : Led} (hM : MAt ma st sy mx xs M) (hk : k ≤ xs.length) (hxl : xs.length < 1000) :
    Tells w 659 [.ref ma, .int k t, .ref c] 2 (M ++ R) (setx_R ma st sy c mx xs k R) NoErr := by
  refine hidE ?_; simp (disch := k_dflt (
    refine hidW ?_
    intro dp un gd cn cs L a ccd cl outer A₀ base h₀ p loose mean mg mb m s Q E B F X N T hk dm hd hu hret hthr
    (refine Gen fun gG9 gK9 => ?_; obtain ⟨dma, xl, cd, rt, bg, hs, ks, ws, u1, n, nb, rfl⟩ := hM; refine gK9 ?_; clear gK9 gG9)
    (try dsimp only [List.cons_append, List.nil_append] at N dm)
    rcases Nat.lt_or_ge k xs.length with hk1 | hk1
    · rename Option (List Code) => gd58Z; (k_with "ar2" => guard_hyp gd58Z; first | with_reducible exact om264 hk1 | with_reducible exact om32 hxl | with_reducible exact om269 hk1 | with_reducible exact om33 hk hk1 | with_reducible exact op18 | with_reducible exact op19 hk3 | with_reducible exact op68 hk hk1 | with_reducible exact op70 hxl hk3)
      have hk2 : (k : Int) < (xs.length : Int) := by walk_at "ar"
      have hk3 : (0 : Int) ≤ (k : Int) := by walk_at "ar"
      (revert X; k_fill; intro X; refine wpAny_call ?_; k_dflt ktr_enter; walk_at "loc"; refine genT ?_; intro tk9)
      walk_at "st9"
      rw [decide_eq_false (by walk_at "ar")]
      walk_at "st9"
      refine' hret _ _ _ _ ?Fx ?Nx ?Dx ?Px
      (case Fx => k_asm)
      (case Nx => k_asm)
      (case Dx => walk_at "dm")
      refine' ⟨[_, _, _, _, _, _], ?_, rfl, rfl⟩
      refine ⟨dma, xl, cd, rt, bg, hs, ks, ws, u1, n, nb, ?_⟩
      rw [show nxt xs k (.ref c) = xs.set (k : Int).toNat (.ref c) from by unfold nxt; rw [if_pos hk1]; rfl]
    · have hk2 : k = xs.length := by walk_at "ar"
      subst hk2
      rename Option (List Code) => gd58Z
      (revert X; k_fill; intro X; refine wpAny_call ?_; k_dflt ktr_enter; walk_at "loc"; refine genT ?_; intro tk9)
      walk_at "st9"
      rw [decide_eq_true (by walk_at "ar")]
      walk_at "st9"
      have hk3 : (xs ++ [Value.ref 222]).length = xs.length + 1 := by rw [List.length_append]; rfl
      have hk4 : ((xs.length : Nat) : Int) < ((xs ++ [Value.ref 222]).length : Int) := by walk_at "ar"
      have hk5 : (0 : Int) ≤ ((xs.length : Nat) : Int) := by walk_at "ar"
      have hk6 : (xs ++ [Value.ref 222]).length < 1001 := by walk_at "ar"
      rw [decide_eq_false (by walk_at "ar")]
      walk_at "st9"
      refine' hret _ _ _ _ ?F ?N ?D ?P
      (case F => k_asm)
      (case N => k_asm)
      (case D => walk_at "dm")
      refine' ⟨[_, _, _, _, _, _], ?_, rfl, rfl⟩
      refine ⟨dma, xl, cd, rt, bg, hs, ks, ws, u1, n + 1, nb, ?_⟩
      rw [show nxt xs xs.length (.ref c) = (xs ++ [Value.ref 222]).set ((xs.length : Nat) : Int).toNat (.ref c) from by unfold nxt; rw [if_neg (Nat.lt_irrefl _), Int.toNat_natCast, List.set_append_right _ _ (Nat.le_refl _), Nat.sub_self]; rfl])) only [↓hidL]
theorem nxt2 {xs : List Value} {u v : Value} (hx : xs.length = 1 ∨ xs.length = 3) : (nxt (nxt xs 1 u) 2 v).length = 3 ∧ (nxt (nxt xs 1 u) 2 v)[1]? = some u ∧ (nxt (nxt xs 1 u) 2 v)[2]? = some v := by
  rcases xs with _ | ⟨a, _ | ⟨b, _ | ⟨c, _ | ⟨d, r⟩⟩⟩⟩
  · simp at hx
  · exact ⟨rfl, rfl, rfl⟩
  · simp at hx
  · exact ⟨rfl, rfl, rfl⟩
  · simp at hx
theorem or3 {n : Nat} (h : n = 1 ∨ n = 3) : 1 ≤ n := by rcases h with e | e <;> (rw [e]; decide)
theorem or3a {n : Nat} (h : n = 1 ∨ n = 3) : n < 1000 := by rcases h with e | e <;> (rw [e]; decide)
theorem or3d {n k : Nat} (h : n = 1 ∨ n = 3) (h' : k = n ∨ k = 2) : k < 1000 := by
  rcases h' with e | e
  · rw [e]; exact or3a h
  · rw [e]; decide
def setargs_R_T (ma st sy cq ca cb : Addr) (mx : Int) (q : Nat) (R : Led) (K7 : Value → Led → Prop) : Prop := ∀ M', ∀ xs', MAt ma st sy mx xs' M' → xs'.length = 3 → xs'[1]? = some (.ref ca) → xs'[2]? = some (.ref cb) → K7 (.none) (M' ++ ([(cq, listOf #[.ref ca, .ref cb] q)] ++ R))
def setargs_R (ma st sy cq ca cb : Addr) (mx : Int) (q : Nat) (R : Led) (r : Value) (led' : Led) : Prop := ∀ K7 : Value → Led → Prop, setargs_R_T ma st sy cq ca cb mx q R K7 → K7 r led'
theorem setargs_R_mk {ma st sy cq ca cb : Addr} {mx : Int} {q : Nat} {R : Led} {r : Value} {led' : Led} : ∀ M', ∀ xs', MAt ma st sy mx xs' M' → xs'.length = 3 → xs'[1]? = some (.ref ca) → xs'[2]? = some (.ref cb) → led' = M' ++ ([(cq, listOf #[.ref ca, .ref cb] q)] ++ R) → r = .none → setargs_R ma st sy cq ca cb mx q R r led' := by
  intro _ _ a0 a1 a2 a3 a4 a5
  subst a4
  subst a5
  exact fun K7 k7 => k7 _ _ a0 a1 a2 a3
theorem setargs_R_pt {ma st sy cq ca cb : Addr} {mx : Int} {q : Nat} {R : Led} (K7 : Value → Led → Prop) (k7 : setargs_R_T ma st sy cq ca cb mx q R K7) (r : Value) (led' : Led) (h7 : setargs_R ma st sy cq ca cb mx q R r led') : K7 r led' := h7 K7 k7
theorem setargs_tells {w : World} {ma st sy cq ca cb : Addr} {mx : Int} {xs : List Value} {q : Nat} {M R : Led} (hM : MAt ma st sy mx xs M) (hx : xs.length = 1 ∨ xs.length = 3) :
    Tells w 666 [.ref ma, .ref cq] 4 (M ++ ([(cq, listOf #[.ref ca, .ref cb] q)] ++ R)) (setargs_R ma st sy cq ca cb mx q R) NoErr := by
  refine hidE ?_; simp (disch := k_dflt (
    refine hidW ?_
    intro dp un gd cn cs L a ccd cl outer A₀ base h₀ p loose mean mg mb m s Q E B F X N T hk dm hd hu hret hthr
    refine m_inst hM ?_; intro dmb xl cd rt bg hs ks ws u0 n0 hm1 hm2 hm3
    rename Option (List Code) => gd59Z; (k_with "ar2" => guard_hyp gd59Z; first | with_reducible exact om266 (by assumption))
    k_with "mine call" => guard_hyp gd59Z; (k_dflt (refine' go1n (e := setx_R_pt) (setx_tells hM' hk1 hk2) ?B341 ?F341 ?X341 ?N341 ?T341 ?hk341 ?d341 ?r341 ?hd341 ?hu341 ?_; (case B341 => k_asm); (case F341 => k_asm); (case X341 => k_asm); (case N341 => k_asm); (case T341 => k_asm); (case hk341 => first | exact rfl | assumption); (case d341 => walk_at "dmx"); (case r341 => walk_at "rot"); (case hd341 => walk_at "hdx"); (case hu341 => walk_at "hux"); intro M9 hM9 h9 tk9 F9 N9 D9; (try dsimp only [List.cons_append, List.nil_append] at N9 D9); (try k_sweep); (try dsimp only)))
    (revert X; k_fill; intro X; refine wpAny_call ?_; k_dflt ktr_enter; walk_at "loc"; refine genT ?_; intro tk9)
    walk_at "st9"
    k_dflt (refine' iter_led (vs := [.ref ca, .ref cb]) (led := [(cq, listOf #[.ref ca, .ref cb] q)] ++ (M ++ R)) (J := fun i m led => m (Str.ofString "self") = some (.ref ma) ∧ (∃ u, m (Str.ofString "number") = some (.int (i : Int) u)) ∧ ∃ M' xs', MAt ma st sy mx xs' M' ∧ (i = 0 → xs' = xs) ∧ (i = 1 → xs' = nxt xs 1 (.ref ca)) ∧ (i = 2 → xs' = nxt (nxt xs 1 (.ref ca)) 2 (.ref cb)) ∧ led = [(cq, listOf #[.ref ca, .ref cb] q)] ++ (M' ++ R)) ?hh1 ?F1 (News.perm ?p1 ?N1) (Dm.perm ?p1 ?D1) (.head _) (.inl rfl) ?hj1 ?hJl1 (fun i v m₁ led₁ h tk I io hv hJ F1 N1 D1 hio => genK fun K9 hK9 => ?_) (fun m₁ led₁ h tk hJ F1 N1 D1 => ?_))
    (case hh1 => exact rfl)
    (case F1 => k_asm)
    (case N1 => k_asm)
    (case D1 => walk_at "dm")
    (case p1 => (refine' Rot.two ?ra ?rb; (case ra => walk_at "rot"); (case rb => walk_at "rot")))
    (case hj1 => exact ⟨by first | rfl | assumption, ⟨_, by first | rfl | assumption⟩, M, xs, hM, fun _ => rfl, fun h => (by cases h), fun h => (by cases h), rfl⟩)
    (case hJl1 => intro i m led hJ; (refine Gen fun gG9 gK9 => ?_; obtain ⟨_, _, _, _, _, _, _, _, e⟩ := hJ; refine gK9 ?_; clear gK9 gG9); rw [e]; exact .head _)
    · (refine Gen fun gG9 gK9 => ?_; obtain ⟨ms, ⟨u8, mn⟩, M', xs', hM', g0, g1, g2, rfl⟩ := hJ; refine gK9 ?_; clear gK9 gG9)
      dsimp only [List.cons_append, List.nil_append] at N1 D1
      have hi2 : i = 0 ∨ i = 1 := by have := (List.getElem?_eq_some_iff.mp hv).1; simp only [List.length_cons, List.length_nil] at this; walk_at "ar"
      rcases hi2 with rfl | rfl
      · have e1 := g0 rfl
        subst e1
        cases hv
        have hk1 : 1 ≤ xs'.length := or3 hx
        have hk2 : xs'.length < 1000 := or3a hx
        refine m_inst hM' ?_; intro dmb xl cd rt bg hs ks ws u0 n0 hm1 hm2 hm3
        k_sweep
        walk_at "st9"
        refine hK9 _ _ ?_; refine' TurnQ.rotP ?FyA ?NyA ?DyA ?ryA ?pyA ?JyA
        (case FyA => k_asm)
        (case NyA => k_asm)
        (case DyA => walk_at "dm")
        (case ryA => walk_at "rot")
        (case pyA => (refine' Rot.two (P := [(cq, _)]) (P2 := M9) ?ra ?rb; (case ra => walk_at "rot"); (case rb => walk_at "rot")))
        (case JyA => exact ⟨ms, ⟨_, by first | rfl | assumption⟩, _, _, by assumption, fun h => (by cases h), fun _ => rfl, fun h => (by cases h), rfl⟩)
      · have e1 := g1 rfl
        subst e1
        cases hv
        have hk0 : (nxt xs 1 (.ref ca)).length = xs.length ∨ (nxt xs 1 (.ref ca)).length = 2 := by unfold nxt; split <;> simp <;> walk_at "ar"
        have hk1 : 2 ≤ (nxt xs 1 (.ref ca)).length := by unfold nxt; split <;> simp <;> walk_at "ar"
        have hk2 : (nxt xs 1 (.ref ca)).length < 1000 := or3d hx hk0
        refine m_inst hM' ?_; intro dmb xl cd rt bg hs ks ws u0 n0 hm1 hm2 hm3
        k_sweep
        walk_at "st9"
        refine hK9 _ _ ?_; refine' TurnQ.rotP ?FyB ?NyB ?DyB ?ryB ?pyB ?JyB
        (case FyB => k_asm)
        (case NyB => k_asm)
        (case DyB => walk_at "dm")
        (case ryB => walk_at "rot")
        (case pyB => (refine' Rot.two (P := [(cq, _)]) (P2 := M9) ?ra ?rb; (case ra => walk_at "rot"); (case rb => walk_at "rot")))
        (case JyB => exact ⟨ms, ⟨_, by first | rfl | assumption⟩, _, _, by assumption, fun h => (by cases h), fun h => (by cases h), fun _ => rfl, rfl⟩)
    · (refine Gen fun gG9 gK9 => ?_; obtain ⟨ms, ⟨u8, mn⟩, M', xs', hM', g0, g1, g2, rfl⟩ := hJ; refine gK9 ?_; clear gK9 gG9)
      have e2 := g2 rfl
      dsimp only [List.cons_append, List.nil_append] at N1 D1
      k_sweep
      walk_at "st9"
      have hq : xs'.length = 3 ∧ xs'[1]? = some (.ref ca) ∧ xs'[2]? = some (.ref cb) := by subst e2; exact nxt2 hx
      refine' out1 (P := M') hret ?F343 ?N343 ?D343 ?r343 ?P; (case F343 => k_asm); (case N343 => k_asm); (case D343 => walk_at "dmx"); (case r343 => walk_at "rot")
      (case P => exact setargs_R_mk _ _ hM' hq.1 hq.2.1 hq.2.2 rfl rfl))) only [↓hidL]
end Mine
theorem Mine.wd91 : True := by
  (k_with "mine enter" => (refine' code_def ?k1W91 ?k2W91 ?k3W91 ?k4W91 ?k5W91 ?kAW91 ?kFW91 ?kKW91 ?k6W91 ?k7W91 ?k8W91 ?k9W91 ?kBW91 ?_ ?c2W91 ?c3W91 ?c4W91 ?c5W91; (case kAW91 => exact rfl); (case kFW91 => exact rfl); (case kKW91 => assumption); (case k1W91 => k_asm); (case k2W91 => k_asm); (case k3W91 => k_asm); (case k4W91 => k_asm); (case k5W91 => k_asm); (case k6W91 => k_is); (case k7W91 => k_is); (case k8W91 => ktr_room); (case k9W91 => exact binds_K (by k_in) rfl (by k_is) rfl rfl rfl); (case c5W91 => decide); (case kBW91 => exact locs rfl); (case c2W91 => exact rfl); (case c3W91 => exact rfl); (case c4W91 => exact rfl); k_whole; intro gZ9 LZ9 hZ9 FGZ9 FZ9 NZ9 BZ9 XZ9 TZ9; (try dsimp only); (try k_fold)))
  trivial
namespace Mine
open PySem PySem.Calls PyProof.Rows PySem.Spec
theorem store_start {h₀ h : Heap} {L st sy dst hl stk trl : Addr} {h1 h2 h3 h4 h5 h6 h7 : Int} {k1 k2 k3 k4 k5 k6 k7 u1 u2 u3 : Tok} {n : Nat} {R : Led} (N : News h₀ L h ((trl, listOf #[] 0) :: (stk, listOf #[] 0) :: (hl, listOf #[] n) :: (st, instObj 423 dst) :: (dst, dictOf [⟨h1, .str "symbols" k1, .ref sy⟩, ⟨h2, .str "max_heap" k2, .int 100000 u1⟩, ⟨h3, .str "heap" k3, .ref hl⟩, ⟨h4, .str "stack" k4, .ref stk⟩, ⟨h5, .str "trail" k5, .ref trl⟩, ⟨h6, .str "hb" k6, .int 0 u2⟩, ⟨h7, .str "bb" k7, .int 0 u3⟩] 7) :: R)) (d : Dm ((trl, listOf #[] 0) :: (stk, listOf #[] 0) :: (hl, listOf #[] n) :: (st, instObj 423 dst) :: (dst, dictOf [⟨h1, .str "symbols" k1, .ref sy⟩, ⟨h2, .str "max_heap" k2, .int 100000 u1⟩, ⟨h3, .str "heap" k3, .ref hl⟩, ⟨h4, .str "stack" k4, .ref stk⟩, ⟨h5, .str "trail" k5, .ref trl⟩, ⟨h6, .str "hb" k6, .int 0 u2⟩, ⟨h7, .str "bb" k7, .int 0 u3⟩] 7) :: R)) :
    ∃ H, StoreAt st sy [] [] H ∧ News h₀ L h (H ++ R) ∧ Dm (H ++ R) := by
  have p : List.Perm ((trl, listOf #[] 0) :: (stk, listOf #[] 0) :: (hl, listOf #[] n) :: (st, instObj 423 dst) :: (dst, dictOf [⟨h1, .str "symbols" k1, .ref sy⟩, ⟨h2, .str "max_heap" k2, .int 100000 u1⟩, ⟨h3, .str "heap" k3, .ref hl⟩, ⟨h4, .str "stack" k4, .ref stk⟩, ⟨h5, .str "trail" k5, .ref trl⟩, ⟨h6, .str "hb" k6, .int 0 u2⟩, ⟨h7, .str "bb" k7, .int 0 u3⟩] 7) :: R) ([(hl, listOf #[] n), (st, instObj 423 dst), (dst, dictOf [⟨h1, .str "symbols" k1, .ref sy⟩, ⟨h2, .str "max_heap" k2, .int 100000 u1⟩, ⟨h3, .str "heap" k3, .ref hl⟩, ⟨h4, .str "stack" k4, .ref stk⟩, ⟨h5, .str "trail" k5, .ref trl⟩, ⟨h6, .str "hb" k6, .int 0 u2⟩, ⟨h7, .str "bb" k7, .int 0 u3⟩] 7), (stk, listOf #[] 0), (trl, listOf #[] 0)] ++ R) := by
    refine List.Perm.trans (l₂ := (hl, listOf #[] n) :: (st, instObj 423 dst) :: (dst, dictOf [⟨h1, .str "symbols" k1, .ref sy⟩, ⟨h2, .str "max_heap" k2, .int 100000 u1⟩, ⟨h3, .str "heap" k3, .ref hl⟩, ⟨h4, .str "stack" k4, .ref stk⟩, ⟨h5, .str "trail" k5, .ref trl⟩, ⟨h6, .str "hb" k6, .int 0 u2⟩, ⟨h7, .str "bb" k7, .int 0 u3⟩] 7) :: (trl, listOf #[] 0) :: (stk, listOf #[] 0) :: R) ?_ (.cons _ (.cons _ (.cons _ (.swap _ _ _))))
    exact List.Perm.append_right R (l₁ := [(trl, listOf #[] 0), (stk, listOf #[] 0), (hl, listOf #[] n), (st, instObj 423 dst), (dst, _)]) (l₂ := [(hl, listOf #[] n), (st, instObj 423 dst), (dst, _), (trl, listOf #[] 0), (stk, listOf #[] 0)]) (List.perm_append_comm (l₁ := [(trl, listOf #[] 0), (stk, listOf #[] 0)]) (l₂ := [(hl, listOf #[] n), (st, instObj 423 dst), (dst, _)]))
  exact ⟨_, ⟨dst, hl, stk, trl, h1, h2, h3, h4, h5, h6, h7, k1, k2, k3, k4, k5, k6, k7, u1, u2, u3, [], n, rfl, rfl, fun i c hc => by cases hc⟩, News.perm p N, Dm.perm p d⟩
inductive store_R (sy : Addr) (R : Led) (r : Value) (led' : Led) : Prop
  | mk : ∀ st, ∀ H, r = .ref st → StoreAt st sy [] [] H → led' = H ++ R → store_R sy R r led'
def store_R_T (sy : Addr) (R : Led) (K7 : Value → Led → Prop) : Prop := ∀ st, ∀ H, StoreAt st sy [] [] H → K7 (.ref st) (H ++ R)
theorem store_R_pt {sy : Addr} {R : Led} (K7 : Value → Led → Prop) (k7 : store_R_T sy R K7) (r : Value) (led' : Led) (h7 : store_R sy R r led') : K7 r led' := by
  obtain ⟨_, _, a0, a1, a2⟩ := h7
  subst a0
  subst a2
  exact k7 _ _ a1
theorem store_tells {w : World} {sy : Addr} {t : Tok} {R : Led} : Tells w 423 [.ref sy, .int 100000 t] 4 R (store_R sy R) NoErr := by
  refine hidE ?_; simp (disch := k_dflt (
    refine hidW ?_
    intro dp un gd cn cs L a ccd cl outer A₀ base h₀ p loose mean mg mb m s Q E B F X N T hk dm hd hu hret hthr
    rename Option (List Code) => gd60Z
    revert X
    k_fill
    intro X
    k_dflt (refine' call_cls ?k1 ?k2 ?k3 ?k4 ?k5 ?k6 ?_; (case k1 => k_asm); (case k2 => k_asm); (case k3 => k_asm); (case k4 => k_is); (case k5 => k_is); (case k6 => k_is); k_whole; intro x' d' h' F' N' l1 l2)
    have dm1 := Dm.newN2 N' l1 l2 dm (by first | rfl | assumption)
    k_lt l1
    k_lt2 l2
    k_sweep
    k_dflt (walk_at "mine enter")
    walk_at "st9"
    (refine Gen fun gG9 gK9 => ?_; obtain ⟨H, hH, N0, D0⟩ := store_start (by assumption) (by walk_at "dm"); refine gK9 ?_; clear gK9 gG9)
    refine' hret _ _ _ _ ?F8 N0 D0 ⟨_, H, rfl, hH, rfl⟩
    (case F8 => k_asm))) only [↓hidL]
end Mine
namespace Mine
open PySem PySem.Calls PyProof.Rows PySem.Spec
def TellsK (w : World) (f : Addr) (args : List Value) (kw : List (Str × Value)) (D : Nat) (led : Led) (Ret : Value → Led → Prop) (Err : Addr → Led → Prop) : Prop :=
  ∀ (dp un : Nat) (gd : Option (List Code)) (cn : Str) (cs : Scope) (L a : Addr) (ccd : Value) (cl : List (Str × Addr)) (outer : List Env) (A₀ : Around) (base h₀ : Heap) (p : Program) (loose : List Str) (mean : ExcName → Option Value)
    (mg mb : Str → Option Value) (m : Str → Option Value) (s : Shared) (Q E : Value → Shared → Prop),
    Below A₀ base outer h₀ → Fr h₀ L s.heap m → (mk.heap_1 w.params).In h₀ → News h₀ L s.heap led → Top p loose mean mg mb h₀ → cs.kind = .function → Dm led → dp + D < recursionLimit → un + 8 * D < cLine →
    RetK h₀ L m s Ret Q →
    ThrK h₀ L m s base (envX cn cs L a ccd cl :: outer) Err E →
    wpAny (model PySem.Challenge.rw_sa0166_01.row.prog w) (ktrTop dp un gd cn cs L a ccd cl outer) (call (.ref f) args kw) Q E s
theorem area_start {w : World} {h₀ h : Heap} {L ma st sy dma xl cd rt bg : Addr} {mx : Int} {o : Obj} {v0 : Value} {n : Nat} {u4 : Tok} {g0 g1 g2 g3 g4 g5 g6 g7 g8 g9 g10 g11 g12 g13 g14 g15 g16 g17 : Int} {k0 k1 k2 k3 k4 k5 k6 k7 k8 k9 k10 k11 k12 k13 k14 k15 k16 k17 : Tok} {w2 w7 w8 w9 w10 w11 w12 w13 w14 w17 : Value} {R H : Led}
    (N : News h₀ L h ((bg, o) :: (rt, listOf #[] 0) :: (xl, listOf #[v0] n) :: (ma, instObj 788 dma) :: (dma, dictOf [⟨g0, .str "symbols" k0, .ref sy⟩, ⟨g1, .str "code" k1, .ref cd⟩, ⟨g2, .str "max_heap" k2, w2⟩, ⟨g3, .str "occurs" k3, .bool true⟩, ⟨g4, .str "max_bits" k4, .int mx u4⟩, ⟨g5, .str "store" k5, .ref st⟩, ⟨g6, .str "x" k6, .ref xl⟩, ⟨g7, .str "p" k7, w7⟩, ⟨g8, .str "cp" k8, w8⟩, ⟨g9, .str "e" k9, w9⟩, ⟨g10, .str "b" k10, w10⟩, ⟨g11, .str "b0" k11, w11⟩, ⟨g12, .str "mode" k12, w12⟩, ⟨g13, .str "s" k13, w13⟩, ⟨g14, .str "guard" k14, w14⟩, ⟨g15, .str "roots" k15, .ref rt⟩, ⟨g16, .str "bags" k16, .ref bg⟩, ⟨g17, .str "collect_wanted" k17, w17⟩] 18) :: (cd, listOf #[] 0) :: (R ++ H))) (d : Dm ((bg, o) :: (rt, listOf #[] 0) :: (xl, listOf #[v0] n) :: (ma, instObj 788 dma) :: (dma, dictOf [⟨g0, .str "symbols" k0, .ref sy⟩, ⟨g1, .str "code" k1, .ref cd⟩, ⟨g2, .str "max_heap" k2, w2⟩, ⟨g3, .str "occurs" k3, .bool true⟩, ⟨g4, .str "max_bits" k4, .int mx u4⟩, ⟨g5, .str "store" k5, .ref st⟩, ⟨g6, .str "x" k6, .ref xl⟩, ⟨g7, .str "p" k7, w7⟩, ⟨g8, .str "cp" k8, w8⟩, ⟨g9, .str "e" k9, w9⟩, ⟨g10, .str "b" k10, w10⟩, ⟨g11, .str "b0" k11, w11⟩, ⟨g12, .str "mode" k12, w12⟩, ⟨g13, .str "s" k13, w13⟩, ⟨g14, .str "guard" k14, w14⟩, ⟨g15, .str "roots" k15, .ref rt⟩, ⟨g16, .str "bags" k16, .ref bg⟩, ⟨g17, .str "collect_wanted" k17, w17⟩] 18) :: (cd, listOf #[] 0) :: (R ++ H))) (hb : o.IsDictOf (intKind PySem.Challenge.rw_sa0166_01.row.prog w) []) : ∃ M, MAt ma st sy mx [v0] M ∧ News h₀ L h (M ++ (H ++ R)) ∧ Dm (M ++ (H ++ R)) := by
  obtain ⟨nb, eb⟩ := nil_dict hb
  subst eb
  have p : ∀ (x1 x2 x3 x4 x5 x6 : Addr × Obj), List.Perm (x1 :: x2 :: x3 :: x4 :: x5 :: x6 :: (R ++ H)) ([x3, x4, x5, x6, x2, x1] ++ (H ++ R)) := fun x1 x2 x3 x4 x5 x6 =>
    List.Perm.append (l₁ := [x1, x2, x3, x4, x5, x6]) ((List.perm_append_comm (l₁ := [x1, x2]) (l₂ := [x3, x4, x5, x6])).trans (List.Perm.append_left [x3, x4, x5, x6] (.swap x2 x1 []))) List.perm_append_comm
  exact ⟨_, ⟨dma, xl, cd, rt, bg, fun i => [g0, g1, g2, g3, g4, g5, g6, g7, g8, g9, g10, g11, g12, g13, g14, g15, g16, g17].getD i 0, fun i => [k0, k1, k2, k3, k4, k5, k6, k7, k8, k9, k10, k11, k12, k13, k14, k15, k16, k17].getD i 0, fun i => [Value.none, Value.none, w2, Value.none, Value.none, Value.none, Value.none, w7, w8, w9, w10, w11, w12, w13, w14, Value.none, Value.none, w17].getD i Value.none, u4, n, nb, rfl⟩, News.perm (p _ _ _ _ _ _) N, Dm.perm (p _ _ _ _ _ _) d⟩
inductive reset_R (ma sy : Addr) (mx : Int) (R : Led) (r : Value) (led' : Led) : Prop
  | mk : ∀ st, ∀ xs, ∀ M, ∀ H, r = .none → xs.length = 1 → MAt ma st sy mx xs M → StoreAt st sy [] [] H → led' = M ++ (H ++ R) → reset_R ma sy mx R r led'
def reset_R_T (ma sy : Addr) (mx : Int) (R : Led) (K7 : Value → Led → Prop) : Prop := ∀ st, ∀ xs, ∀ M, ∀ H, xs.length = 1 → MAt ma st sy mx xs M → StoreAt st sy [] [] H → K7 (.none) (M ++ (H ++ R))
theorem reset_R_pt {ma sy : Addr} {mx : Int} {R : Led} (K7 : Value → Led → Prop) (k7 : reset_R_T ma sy mx R K7) (r : Value) (led' : Led) (h7 : reset_R ma sy mx R r led') : K7 r led' := by
  obtain ⟨_, _, _, _, a0, a1, a2, a3, a4⟩ := h7
  subst a0
  subst a4
  exact k7 _ _ _ _ a1 a2 a3
theorem reset_tells {w : World} {ma dma sy cd : Addr} {mx h0 h1 h2 h3 h4 : Int} {k0 k1 k2 k3 k4 u2 u4 : Tok} {R : Led} : Tells w 652 [.ref ma] 8 ((ma, instObj 788 dma) :: (dma, dictOf [⟨h0, .str "symbols" k0, .ref sy⟩, ⟨h1, .str "code" k1, .ref cd⟩, ⟨h2, .str "max_heap" k2, .int 100000 u2⟩, ⟨h3, .str "occurs" k3, .bool true⟩, ⟨h4, .str "max_bits" k4, .int mx u4⟩] 5) :: (cd, listOf #[] 0) :: R) (reset_R ma sy mx R) NoErr := by
  refine hidE ?_; simp (disch := k_dflt (
    refine hidW ?_
    intro dp un gd cn cs L a ccd cl outer A₀ base h₀ p loose mean mg mb m s Q E B F X N T hk dm hd hu hret hthr
    rename Option (List Code) => gd61Z
    k_with "mine call" => guard_hyp gd61Z; (k_dflt (refine' go0n (e := store_R_pt) store_tells ?B348 ?F348 ?X348 ?N348 ?T348 ?hk348 ?d348 ?hd348 ?hu348 ?_; (case B348 => k_asm); (case F348 => k_asm); (case X348 => k_asm); (case N348 => k_asm); (case T348 => k_asm); (case hk348 => first | exact rfl | assumption); (case d348 => walk_at "dmx"); (case hd348 => walk_at "hdx"); (case hu348 => walk_at "hux"); intro st H hH h9 tk9 F9 N9 D9; replace N9 := News.perm List.perm_append_comm N9; replace D9 := Dm.perm List.perm_append_comm D9; (try simp only [List.cons_append, List.nil_append, List.append_nil, List.append_assoc] at N9 D9); (try k_sweep); (try dsimp only)))
    (revert X; k_fill; intro X; refine wpAny_call ?_; k_dflt ktr_enter; walk_at "loc"; refine genT ?_; intro tk9)
    walk_at "st9"
    (refine Gen fun gG9 gK9 => ?_; obtain ⟨M, hM, N0, D0⟩ := area_start (by assumption) (by walk_at "dm") (by assumption); refine gK9 ?_; clear gK9 gG9)
    refine' hret _ _ _ _ ?F8 N0 D0 ⟨_, _, M, H, rfl, rfl, hM, hH, rfl⟩
    (case F8 => k_asm))) only [↓hidL]
inductive areas_R (sy : Addr) (mx : Int) (R : Led) (r : Value) (led' : Led) : Prop
  | mk : ∀ ma, ∀ st, ∀ xs, ∀ M, ∀ H, r = .ref ma → xs.length = 1 → MAt ma st sy mx xs M → StoreAt st sy [] [] H → led' = M ++ (H ++ R) → areas_R sy mx R r led'
def areas_R_T (sy : Addr) (mx : Int) (R : Led) (K7 : Value → Led → Prop) : Prop := ∀ ma, ∀ st, ∀ xs, ∀ M, ∀ H, xs.length = 1 → MAt ma st sy mx xs M → StoreAt st sy [] [] H → K7 (.ref ma) (M ++ (H ++ R))
theorem areas_R_pt {sy : Addr} {mx : Int} {R : Led} (K7 : Value → Led → Prop) (k7 : areas_R_T sy mx R K7) (r : Value) (led' : Led) (h7 : areas_R sy mx R r led') : K7 r led' := by
  obtain ⟨_, _, _, _, _, a0, a1, a2, a3, a4⟩ := h7
  subst a0
  subst a4
  exact k7 _ _ _ _ _ a1 a2 a3
theorem areas_tells {w : World} {sy cd : Addr} {mx : Int} {t : Tok} {R : Led} : TellsK w 788 [.ref sy, .ref cd] [(Str.ofString "max_bits", .int mx t)] 12 ([(cd, listOf #[] 0)] ++ R) (areas_R sy mx R) NoErr := by
  refine hidE ?_; simp (disch := k_dflt (
    refine hidW ?_
    intro dp un gd cn cs L a ccd cl outer A₀ base h₀ p loose mean mg mb m s Q E B F X N T hk dm hd hu hret hthr
    dsimp only [List.cons_append, List.nil_append] at N dm
    rename Option (List Code) => gd62Z; (k_with "ar2" => guard_hyp gd62Z; first | with_reducible exact op24 hd | with_reducible exact op41 hu)
    k_with "mine call" => guard_hyp gd62Z; (k_dflt (refine' go0n (e := reset_R_pt) reset_tells ?B352 ?F352 ?X352 ?N352 ?T352 ?hk352 ?d352 ?hd352 ?hu352 ?_; (case B352 => k_asm); (case F352 => k_asm); (case X352 => k_asm); (case N352 => k_asm); (case T352 => k_asm); (case hk352 => first | exact rfl | assumption); (case d352 => walk_at "dmx"); (case hd352 => walk_at "hdx"); (case hu352 => walk_at "hux"); intro st xs M H hxs hM hH h9 tk9 F9 N9 D9; (try dsimp only [List.cons_append, List.nil_append] at N9 D9); (try k_sweep); (try dsimp only)))
    revert X
    k_fill
    intro X
    k_dflt (refine' call_cls ?k1 ?k2 ?k3 ?k4 ?k5 ?k6 ?_; (case k1 => k_asm); (case k2 => k_asm); (case k3 => k_asm); (case k4 => k_is); (case k5 => k_is); (case k6 => k_is); k_whole; intro x' d' h' F' N' l1 l2)
    (try dsimp only [List.cons_append, List.nil_append] at N')
    have dm1 := Dm.newN2 N' l1 l2 dm (by first | rfl | assumption)
    k_lt l1
    k_lt2 l2
    k_sweep
    k_dflt (walk_at "mine enter")
    walk_at "st9"
    refine' hret _ _ _ _ ?F8 ?N8 ?D8 ⟨_, st, xs, M, H, rfl, hxs, hM, hH, rfl⟩
    (case F8 => k_asm)
    (case N8 => k_asm)
    (case D8 => walk_at "dm"))) only [↓hidL]
end Mine
namespace Mine
open PySem PySem.Calls PyProof.Rows PySem.Spec
theorem evZ {a b c d e s W : Nat} (h4 : a = b) (h5 : b ≤ c) (hw : W = e + c) (hv : d + W ≤ 2 * s) (hs : s < 400) : a < 900000 :=
  Nat.lt_of_le_of_lt (Nat.le_trans (Nat.le_of_eq h4) (Nat.le_trans h5 (Nat.le_trans (Nat.le_add_left c e) (Nat.le_trans (Nat.le_of_eq hw.symm) (Nat.le_trans (Nat.le_add_left W d) hv))))) (Nat.lt_of_lt_of_le (Nat.mul_lt_mul_of_pos_left hs (by decide)) (by decide))
theorem evX {A n i : Nat} (hi : i < n) : ((A : Int) + 1 + ((n : Int) + (i : Int) * (-1)) - 1).toNat = A + 1 + (n - 1 - i) := by
  obtain ⟨d, rfl⟩ := Nat.exists_eq_add_of_lt hi
  rw [show (A : Int) + 1 + (((i + d + 1 : Nat) : Int) + (i : Int) * (-1)) - 1 = ((A + 1 + d : Nat) : Int) by (first | with_reducible exact op64 | omega), Int.toNat_natCast, Nat.add_sub_cancel, Nat.add_sub_cancel_left]
def eval_R_T (σ : Sy) (mx : Int) (M H S J R : Led) (t : Tm) (K7 : Value → Led → Prop) : Prop := ∀ Jn, ∀ v, ∀ u, TupL Jn → evT σ mx t = .ok v → K7 (.int v u) (M ++ (H ++ (S ++ ((Jn ++ J) ++ R))))
def eval_R (σ : Sy) (mx : Int) (M H S J R : Led) (t : Tm) (r : Value) (led' : Led) : Prop := ∀ K7 : Value → Led → Prop, eval_R_T σ mx M H S J R t K7 → K7 r led'
theorem eval_R_mk {σ : Sy} {mx : Int} {M H S J R : Led} {t : Tm} {r : Value} {led' : Led} : ∀ Jn, ∀ v, ∀ u, TupL Jn → r = .int v u → evT σ mx t = .ok v → led' = M ++ (H ++ (S ++ ((Jn ++ J) ++ R))) → eval_R σ mx M H S J R t r led' := by
  intro _ _ _ a0 a1 a2 a3
  subst a1
  subst a3
  exact fun K7 k7 => k7 _ _ _ a0 a2
theorem eval_R_pt {σ : Sy} {mx : Int} {M H S J R : Led} {t : Tm} (K7 : Value → Led → Prop) (k7 : eval_R_T σ mx M H S J R t K7) (r : Value) (led' : Led) (h7 : eval_R σ mx M H S J R t r led') : K7 r led' := h7 K7 k7
theorem eval_tells {w : World} {ma st sy c : Addr} {σ : Sy} {mx : Int} {xs : List Value} {M H S J R : Led} {hp : List (Int × Int)} {ct : Int × Int} {t : Tm} {as : List Nat} {n : Nat} (hM : MAt ma st sy mx xs M) (hH : StoreAt st sy hp J H) (hS : SymAt w sy σ S) (hd0 : σ.Dot) (hz : σ.Small n) (hn : n < 50000) (hmx : mx ≤ 70) (hpz : hp.length < 80000)
    (hc : CellIn J c ct) (hL : Lies hp ct t as) (hnd : as.Nodup) (hg : t.Good σ) (hts : t.size < 400) :
    Tells w 546 [.ref ma, .ref c] 20 (M ++ (H ++ (S ++ (J ++ R)))) (eval_R σ mx M H S J R t) (fun dx led' => ∃ er, evT σ mx t = .error er ∧ ErrAt w sy σ n er (M ++ (H ++ (J ++ R))) dx led') := by
  refine hidE ?_; simp (disch := k_dflt (
    refine hidW ?_
    intro dp un gd cn cs L a ccd cl outer A₀ base h₀ p loose mean mg mb m s Q E B F X N T hk dm hd hu hret hthr
    refine m_inst hM ?_; intro dm xl cd rt bg hs ks ws u0 n0 hm1 hm2 hm3
    refine store_inst hH ?_; intro dst hl stk trl h1 h2 h3 h4 h5 h6 h7 k1 k2 k3 k4 k5 k6 k7 u1 u2 u3 vs n1 hI1 hI2 hI3 hV
    rename Option (List Code) => gd63Z; (k_with "ar2" => guard_hyp gd63Z; first | with_reducible exact om32 hvz | with_reducible exact om92 hts hl4 hl5 hv0 hwe hi htl hk3 | with_reducible exact om6 | with_reducible exact om93 hi | with_reducible exact om95 hnl | with_reducible exact om96 hmx | with_reducible exact om97 htl | with_reducible exact om99 hi | with_reducible exact om100 hpz hlt this)
    refine sym_inst hS ?_; intro _ _ _ _ _ _ _ _ _ _ _ _ _ hi1 hi2
    k_with "exec While Name cons nil" => guard_hyp gd63Z; ((rename Obj.IsDictOf (PySem.intKind _ _) _ _ => hdI); ((refine Gen fun gG9 gK9 => ?_; obtain ⟨esI, nI, rfl⟩ := dict_form hdI; refine gK9 ?_; clear gK9 gG9)); k_dflt (refine' while_ledP (J := EvJ w ma st sy σ mx (evT σ mx t) hp M H S J R (2 * t.size)) ?F7 ?N7 ?D7 ?p7 ?J7 ?_; (case F7 => k_asm); (case N7 => k_asm); (case D7 => walk_at "dm"); (case p7 => (refine' rots7 (P := M) (P2 := H) (P3 := S) (P4 := J) (P5 := [(_, listOf #[.ref c] _)]) (P6 := [(_, listOf #[] _)]) (P7 := [(_, dictOf _ _)]) ?ra ?rb ?rc ?rd ?re ?rf ?rg; (case ra => walk_at "rot"); (case rb => walk_at "rot"); (case rc => walk_at "rot"); (case rd => walk_at "rot"); (case re => walk_at "rot"); (case rf => walk_at "rot"); (case rg => walk_at "rot"))); (case J7 => exact ⟨_, _, _, [], [.ref c], _, [], _, _, _, [], [.node ct t as], [], ⟨by first | rfl | assumption, by first | rfl | assumption, by first | rfl | assumption, by first | rfl | assumption, by first | rfl | assumption, by first | rfl | assumption⟩, tupL_nil, ⟨[], c, rfl, hc, rfl⟩, rfl, by assumption, by assumption, ev_begin hL hnd hg, rfl, rfl⟩)); intro n m₁ led₁ h tk hJ F1 N1 D1; refine genW fun K9 hK9 => ?_; refine Hold.of ?_)
    (revert X; k_fill; intro X; refine wpAny_call ?_; k_dflt ktr_enter; walk_at "loc"; refine genT ?_; intro tk9)
    walk_at "st9"
    refine Hold.mk ?_
    (refine Gen fun gG9 gK9 => ?_; obtain ⟨ta, va, ka, Jn, tvs, nt, vvs, nv, es, nk, kvs, ents, vals, hm9, hJn, hE, hVv, hkd, hklo, hst, rfl, rfl⟩ := hJ; refine gK9 ?_; clear gK9 gG9)
    have ms := hm9.1
    have msy := hm9.2.1
    have mm := hm9.2.2.1
    have mk9 := hm9.2.2.2.1
    have mt := hm9.2.2.2.2.1
    have mv := hm9.2.2.2.2.2
    have hHn : StoreAt st sy hp (Jn ++ J) H := hH.mono (fun _ h => List.mem_append_right _ h)
    have hl1 := len_wts ents
    have hl2 := hE.len
    have hl3 := hVv.len
    dsimp only [List.cons_append, List.nil_append] at N1 D1
    have hkz : kvs.length ≤ 100000 := hst.kz hts
    have hmx1 : mx < 100 := by walk_at "ar"
    rcases ents with _ | ⟨e, ents⟩
    · have e1 : tvs = [] := hE
      subst e1
      have e2 : vals.length = 1 := hst.wf
      (refine Gen fun gG9 gK9 => ?_; obtain ⟨v9, rfl⟩ := List.length_eq_one_iff.mp e2; refine gK9 ?_; clear gK9 gG9)
      (refine Gen fun gG9 gK9 => ?_; obtain ⟨vvs', t9, rfl, hnil⟩ := hVv; refine gK9 ?_; clear gK9 gG9)
      have e3 : vvs' = [] := hnil
      subst e3
      dsimp only [List.nil_append] at N1 D1
      have hx0 : ([Value.int v9 t9] : List Value)[(0 : Int).toNat]? = some (.int v9 t9) := rfl
      k_sweep
      walk_at "st9"
      refine' outP (G := [_, _, _]) hret ?F ?N ?D ?pm ?P
      (case F => k_asm)
      (case N => k_asm)
      (case D => walk_at "dm")
      (case pm => (refine' rots4G (P := M) (P2 := H) (P3 := S) (P4 := Jn ++ J) (R := R) ?ra ?rb ?rc ?rd ?re; (case ra => walk_at "rot"); (case rb => walk_at "rot"); (case rc => walk_at "rot"); (case rd => walk_at "rot"); (case re => walk_at "rot")))
      (case P => exact eval_R_mk Jn v9 _ hJn rfl hst.ct.symm rfl)
    · (refine Gen fun gG9 gK9 => ?_; obtain ⟨tvs', ad, rfl, hca, hE'⟩ := hE; refine gK9 ?_; clear gK9 gG9)
      have hOke := hst.ok
      have hk0 := hst.k0
      have hv0 := hst.v0
      have hcont := hst.ct
      have hl4 := hE'.len
      have hl5 := len_wts ents
      have hw1 := w_pos e
      have hwe : wts (e :: ents) = e.w + wts ents := rfl
      have htz : tvs'.length < 1000000 := by walk_at "ar"
      rcases e with ⟨c9, t9, as9⟩ | ⟨a9, f9, two⟩
      · (refine Gen fun gG9 gK9 => ?_; obtain ⟨hLe, hGe⟩ := hOke; refine gK9 ?_; clear gK9 gG9)
        dsimp only [Ent.cell] at hca
        have hder := (lies_der hLe).1
        have hne6 := lies_ne6 hLe
        have hca0 := hca
        (refine Gen fun gG9 gK9 => ?_; obtain ⟨t6, t5, k8, hca1⟩ := hca; refine gK9 ?_; clear gK9 gG9)
        k_with "mine call" => guard_hyp gd63Z; (k_dflt (refine' go2n (e := deref_R_pt) (deref_tells hHn hca0 (Nat.lt_trans hpz (by decide)) hder) ?B355 ?F355 ?X355 ?N355 ?T355 ?hk355 ?d355 ?r355 ?rr355 ?hd355 ?hu355 ?_; (case B355 => k_asm); (case F355 => k_asm); (case X355 => k_asm); (case N355 => k_asm); (case T355 => k_asm); (case hk355 => first | exact rfl | assumption); (case d355 => walk_at "dmx"); (case r355 => walk_at "rot"); (case rr355 => walk_at "rot"); (case hd355 => walk_at "hdx"); (case hu355 => walk_at "hux"); intro ad9 hcd0 h9 tk9 F9 N9 D9; (try dsimp only [List.cons_append, List.nil_append] at N9 D9); (try k_sweep); (try dsimp only); refine Hold.of ?_))
        k_sweep
        walk_at "st9"
        refine Hold.mk ?_
        rcases tm_cases t9 with et9 | ⟨n9, et9⟩ | ⟨i9, et9⟩ | ⟨f9, ts9, hs9⟩
        · (refine Gen fun gG9 gK9 => ?_; obtain ⟨p9, hcq⟩ := der_var hLe et9; refine gK9 ?_; clear gK9 gG9)
          (refine Gen fun gG9 gK9 => ?_; obtain ⟨t8, t7, k9, hcd⟩ : CellIn _ _ (0, (p9 : Int)) := hcq ▸ hcd0; refine gK9 ?_; clear gK9 gG9)
          (try dsimp only at hcd)
          k_with "mine call" => guard_hyp gd63Z; first
            | k_dflt (refine' go1n (e := ptId) (inst_tells (by assumption) (by assumption) (by assumption) (by assumption)) ?B356 ?F356 ?X356 ?N356 ?T356 ?hk356 ?d356 ?r356 ?hd356 ?hu356 ?_; (case B356 => k_asm); (case F356 => k_asm); (case X356 => k_asm); (case N356 => k_asm); (case T356 => k_asm); (case hk356 => first | exact rfl | assumption); (case d356 => walk_at "dmx"); (case r356 => walk_at "rot"); (case hd356 => walk_at "hdx"); (case hu356 => walk_at "hux"); intro r9 led9 hR9 h9 tk9 F9 N9 D9; (refine Gen fun gG9 gK9 => ?_; obtain ⟨e9, dx9, t9, led0, f9, hA9, p9⟩ := errAt_of hR9; subst f9; refine gK9 ?_; clear gK9 gG9); replace N9 := News.perm p9 N9; replace D9 := Dm.perm p9 D9; (try k_sweep); (try dsimp only))
          walk_at "st9"
          simp only [List.append_assoc] at hA9
          (refine' thr_drop (G := _) hthr ?F ?U ?Z ?D ?A ?pm ?X; (case F => assumption); (case U => assumption); (case Z => assumption); (case D => assumption); (case A => assumption); (case pm => (refine' rots3G (P := M) (P2 := H) (P3 := J) (R := R) ?ra ?rb ?rc ?rd; (case ra => walk_at "rot"); (case rb => walk_at "rot"); (case rc => walk_at "rot"); (case rd => walk_at "rot"))); (case X => rw [← hcont, et9]; rfl))
        · (refine Gen fun gG9 gK9 => ?_; obtain ⟨t8, t7, k9, hcd⟩ : CellIn _ _ (4, n9) := der_at hLe et9 ▸ hcd0; refine gK9 ?_; clear gK9 gG9)
          (try dsimp only at hcd)
          k_with "mine call" => guard_hyp gd63Z; first
            | k_dflt (refine' go1n (e := ptId) (notev_tells (by assumption) (by assumption) (by assumption) (by assumption)) ?B357 ?F357 ?X357 ?N357 ?T357 ?hk357 ?d357 ?r357 ?hd357 ?hu357 ?_; (case B357 => k_asm); (case F357 => k_asm); (case X357 => k_asm); (case N357 => k_asm); (case T357 => k_asm); (case hk357 => first | exact rfl | assumption); (case d357 => walk_at "dmx"); (case r357 => walk_at "rot"); (case hd357 => walk_at "hdx"); (case hu357 => walk_at "hux"); intro r9 led9 hR9 h9 tk9 F9 N9 D9; (refine Gen fun gG9 gK9 => ?_; obtain ⟨e9, dx9, t9, led0, f9, hA9, p9⟩ := errAt_of hR9; subst f9; refine gK9 ?_; clear gK9 gG9); replace N9 := News.perm p9 N9; replace D9 := Dm.perm p9 D9; (try k_sweep); (try dsimp only))
          walk_at "st9"
          simp only [List.append_assoc] at hA9
          (refine' thr_drop (G := _) hthr ?F ?U ?Z ?D ?A ?pm ?X; (case F => assumption); (case U => assumption); (case Z => assumption); (case D => assumption); (case A => assumption); (case pm => (refine' rots3G (P := M) (P2 := H) (P3 := J) (R := R) ?ra ?rb ?rc ?rd; (case ra => walk_at "rot"); (case rb => walk_at "rot"); (case rc => walk_at "rot"); (case rd => walk_at "rot"))); (case X => rw [← hcont, et9]; rfl))
        · (refine Gen fun gG9 gK9 => ?_; obtain ⟨t8, t7, k9, hcd⟩ : CellIn _ _ (5, i9) := der_num hLe et9 ▸ hcd0; refine gK9 ?_; clear gK9 gG9)
          (try dsimp only at hcd)
          have hvz : vvs.length < 1000000 := by walk_at "ar"
          walk_at "st9"
          refine hK9 _ _ ?_; refine' TurnW.rotP ?F ?N ?D ?pm ?J ?nm
          (case F => k_asm)
          (case N => k_asm)
          (case D => walk_at "dm")
          (case pm => (refine' rots7 (P := M) (P2 := H) (P3 := S) (P4 := Jn ++ J) (P5 := [(ta, _)]) (P6 := [(va, _)]) (P7 := [(ka, _)]) ?ra ?rb ?rc ?rd ?re ?rf ?rg; (case ra => walk_at "rot"); (case rb => walk_at "rot"); (case rc => walk_at "rot"); (case rd => walk_at "rot"); (case re => walk_at "rot"); (case rf => walk_at "rot"); (case rg => walk_at "rot")))
          (case J => (refine' ev_leaf ?hm9 hJn hE' hVv hkd hklo hst et9 hmx; (case hm9 => exact hm9)))
          (case nm => rw [hwe]; walk_at "ar")
        · (refine Gen fun gG9 gK9 => ?_; obtain ⟨A9, hcq, _⟩ := der_str hs9 hLe; refine gK9 ?_; clear gK9 gG9)
          (refine Gen fun gG9 gK9 => ?_; obtain ⟨hpa, two9, nds, hl9, hF9, hnl, hn1, has, hfn, hcc, hww, hwt9⟩ := lies_str (σ := σ) (mx := mx) (hcq ▸ hLe) hs9 hGe; refine gK9 ?_; clear gK9 gG9)
          (refine Gen fun gG9 gK9 => ?_; obtain ⟨hF0, hF1, fa9, x9, hfa0, hfa1, hff, hxx, hxw⟩ := id hF9; refine gK9 ?_; clear gK9 gG9)
          have hF0' : 0 ≤ f9 := by walk_at "ar"
          have hA0 : (0 : Int) ≤ (A9 : Int) := Int.natCast_nonneg _
          have hpa' : hp[(A9 : Int).toNat]? = some (6, f9) := hpa
          have hcr : σ.funs[f9.toNat]? = some (fa9, ((ts9.length : Nat) : Int)) := by rw [hff, hl9]; cases two9 <;> rfl
          have hev : isEv x9 ((ts9.length : Nat) : Int) = true := by rw [hl9]; cases two9 <;> first | exact uw_ev _ hxw | exact bw_ev _ hxw
          have hfrA : (valueAt kvs (A9 : Int)).isSome = false := hst.fr (by rw [has]; exact .head _)
          replace hcd0 : CellIn _ _ (2, (A9 : Int)) := hcq ▸ hcd0
          (refine Gen fun gG9 gK9 => ?_; obtain ⟨t8, t7, k9, hcd⟩ := id hcd0; refine gK9 ?_; clear gK9 gG9)
          (try dsimp only at hcd)
          have hwe2 : wts (Ent.node c9 t9 as9 :: ents) = 2 * t9.size + wts ents := rfl
          have htz2 : tvs'.length < 900000 := evZ hl4 hl5 hwe2 hv0 hts
          k_with "mine call" => guard_hyp gd63Z; first
            | k_dflt (refine' go2n (e := functor_of_R_pt) (functor_of_tells hHn hcd0 (Nat.lt_trans hpz (by decide)) hA0 hpa') ?B358 ?F358 ?X358 ?N358 ?T358 ?hk358 ?d358 ?r358 ?rr358 ?hd358 ?hu358 ?_; (case B358 => k_asm); (case F358 => k_asm); (case X358 => k_asm); (case N358 => k_asm); (case T358 => k_asm); (case hk358 => first | exact rfl | assumption); (case d358 => walk_at "dmx"); (case r358 => walk_at "rot"); (case rr358 => walk_at "rot"); (case hd358 => walk_at "hdx"); (case hu358 => walk_at "hux"); intro u8 h9 tk9 F9 N9 D9; (try dsimp only [List.cons_append, List.nil_append] at N9 D9); (try k_sweep); (try dsimp only))
            | k_dflt (refine' go1n (e := chk_R_pt) (chk_tells hS hF0' hF1 hcr hfa0 hfa1 hxx hev) ?B359 ?F359 ?X359 ?N359 ?T359 ?hk359 ?d359 ?r359 ?hd359 ?hu359 ?_; (case B359 => k_asm); (case F359 => k_asm); (case X359 => k_asm); (case N359 => k_asm); (case T359 => k_asm); (case hk359 => first | exact rfl | assumption); (case d359 => walk_at "dmx"); (case r359 => walk_at "rot"); (case hd359 => walk_at "hdx"); (case hu359 => walk_at "hux"); intro  h9 tk9 F9 N9 D9; (try dsimp only [List.cons_append, List.nil_append] at N9 D9); (try k_sweep); (try dsimp only))
            | k_dflt (refine' go1n (e := arity_R_pt) (arity_tells hS hF0' hF1 hcr) ?B360 ?F360 ?X360 ?N360 ?T360 ?hk360 ?d360 ?r360 ?hd360 ?hu360 ?_; (case B360 => k_asm); (case F360 => k_asm); (case X360 => k_asm); (case N360 => k_asm); (case T360 => k_asm); (case hk360 => first | exact rfl | assumption); (case d360 => walk_at "dmx"); (case r360 => walk_at "rot"); (case hd360 => walk_at "hdx"); (case hu360 => walk_at "hux"); intro u8 h9 tk9 F9 N9 D9; (try dsimp only [List.cons_append, List.nil_append] at N9 D9); (try k_sweep); (try dsimp only))
          k_with "mine iter" => guard_hyp gd63Z; (k_dflt (refine' iter_rangeP (n := ts9.length) (J := EvI w ma st sy ka ta va ad9 M H S J R Jn tvs' vvs nv A9 ts9.length kvs nds (Ent.fn A9 f9 two9 :: ents)) ?hh8 ?hr8 ?hs8 ?hn8 ?F8 ?N8 ?D8 ?pm8 ?hj8 (fun i tv m₁ led₁ h tk I io hi hJ F1 N1 D1 hio => Hold.of ?_) (fun m₁ led₁ h tk hJ F1 N1 D1 => Hold.of ?_); (case hh8 => exact rfl); (case hr8 => assumption); (case hs8 => exact down_small (by rw [hl9]; cases two9 <;> decide)); (case hn8 => exact down_size); (case F8 => k_asm); (case N8 => k_asm); (case D8 => walk_at "dm"); (case pm8 => (refine' rots7 (P := M) (P2 := H) (P3 := S) (P4 := (_, tupO [.int 6 _, _] _) :: (Jn ++ J)) (P5 := [(ta, _)]) (P6 := [(va, _)]) (P7 := [(ka, _)]) ?ra ?rb ?rc ?rd ?re ?rf ?rg; (case ra => walk_at "rot"); (case rb => walk_at "rot"); (case rc => walk_at "rot"); (case rd => walk_at "rot"); (case re => walk_at "rot"); (case rf => walk_at "rot"); (case rg => walk_at "rot"))); (case hj8 => exact ⟨_ :: Jn, tvs' ++ [.ref _], _, _, _, _, hm9, by first | rfl | assumption, fun _ h => .tail _ h, tupL_cons rfl hJn, by simp, by rw [Nat.sub_zero, List.drop_of_length_le (by walk_at "ar")]; exact ⟨tvs', _, rfl, cell_head rfl rfl, hE'.mono (app_mono fun p h => .tail _ h)⟩, by assumption, rfl⟩)))
          k_sweep
          walk_at "st9"
          · refine Hold.mk ?_
            refine genK fun K9 hK9 => ?_
            (refine Gen fun gG9 gK9 => ?_; obtain ⟨Jn', tvs9, nt9, es9, nk9, kv9, hm8, mi', hsub, hJn', htl, hE9, hkd9, rfl⟩ := hJ; refine gK9 ?_; clear gK9 gG9)
            have ms' := hm8.1
            have msy' := hm8.2.1
            have mm' := hm8.2.2.1
            have mk9' := hm8.2.2.2.1
            have mt' := hm8.2.2.2.2.1
            have mv' := hm8.2.2.2.2.2
            have hHn' : StoreAt st sy hp (Jn' ++ J) H := hH.mono (fun _ h => List.mem_append_right _ h)
            have hcd9 : CellIn (Jn' ++ J) ad9 (2, (A9 : Int)) := hcd0.mono (fun p h => (List.mem_append.mp h).elim (fun h => List.mem_append_left _ (hsub _ h)) (List.mem_append_right _))
            have hil : ts9.length - 1 - i < nds.length := by rw [hnl]; walk_at "ar"
            (refine Gen fun gG9 gK9 => ?_; obtain ⟨e9, he9⟩ : ∃ e, nds[ts9.length - 1 - i]? = some e := ⟨_, List.getElem?_eq_getElem hil⟩; refine gK9 ?_; clear gK9 gG9)
            have hpl := (hn1 _ e9 he9).1
            have hdd := drop_down hnl hi he9
            have hpl' : hp[((A9 : Int) + 1 + ((ts9.length : Int) + (i : Int) * (-1)) - 1).toNat]? = some e9.cell := by rw [← hpl, evX hi]
            have hkk : (0 : Int) ≤ ((ts9.length : Int) + (i : Int) * (-1)) := by walk_at "ar"
            have htl9 : tvs9.length < 950000 := by
              have hk3 : ts9.length < 3 := by rw [hl9]; cases two9 <;> decide
              walk_at "ar"
            dsimp only [List.cons_append, List.nil_append] at N1 D1
            k_with "mine call" => guard_hyp gd63Z; (k_dflt (refine' go2n (e := arg_R_pt) (arg_tells hHn' hcd9 (Nat.lt_trans hpz (by decide)) hA0 hkk hpl') ?B361 ?F361 ?X361 ?N361 ?T361 ?hk361 ?d361 ?r361 ?rr361 ?hd361 ?hu361 ?_; (case B361 => k_asm); (case F361 => k_asm); (case X361 => k_asm); (case N361 => k_asm); (case T361 => k_asm); (case hk361 => first | exact rfl | assumption); (case d361 => walk_at "dmx"); (case r361 => walk_at "rot"); (case rr361 => walk_at "rot"); (case hd361 => walk_at "hdx"); (case hu361 => walk_at "hux"); intro ad8 hc8 h9 tk9 F9 N9 D9; (try dsimp only [List.cons_append, List.nil_append] at N9 D9); (try k_sweep); (try dsimp only)))
            k_sweep
            walk_at "st9"
            refine hK9 _ _ ?_; refine' TurnQ.rotP ?F ?N ?D ?r8 ?pm ?J
            (case F => k_asm)
            (case N => k_asm)
            (case D => walk_at "dm")
            (case r8 => walk_at "rot")
            (case pm => (refine' rots7 (P := M) (P2 := H) (P3 := S) (P4 := Jn' ++ J) (P5 := [(ta, _)]) (P6 := [(va, _)]) (P7 := [(ka, _)]) ?ra ?rb ?rc ?rd ?re ?rf ?rg; (case ra => walk_at "rot"); (case rb => walk_at "rot"); (case rc => walk_at "rot"); (case rd => walk_at "rot"); (case re => walk_at "rot"); (case rf => walk_at "rot"); (case rg => walk_at "rot")))
            (case J => exact ⟨Jn', tvs9 ++ [.ref ad8], _, _, _, _, hm8, mi', hsub, hJn', by rw [List.length_append]; simp only [List.length_cons, List.length_nil]; walk_at "ar", by rw [hdd]; exact ⟨tvs9, ad8, rfl, hc8, hE9⟩, hkd9, rfl⟩)
          · refine Hold.mk ?_
            (refine Gen fun gG9 gK9 => ?_; obtain ⟨Jn', tvs9, nt9, es9, nk9, kv9, hm8, mi', hsub, hJn', htl, hE9, hkd9, rfl⟩ := hJ; refine gK9 ?_; clear gK9 gG9)
            have ms' := hm8.1
            have msy' := hm8.2.1
            have mm' := hm8.2.2.1
            have mk9' := hm8.2.2.2.1
            have mt' := hm8.2.2.2.2.1
            have mv' := hm8.2.2.2.2.2
            rw [Nat.sub_self, List.drop_zero] at hE9
            dsimp only [List.cons_append, List.nil_append] at N1 D1
            k_sweep
            walk_at "st9"
            have hes := ev_str (w := w) (Jn := Jn') (M := M) (H := H) (R := R) (nt := nt9) (nv := nv) (Jn' := Jn') (S := S) hm8 hJn' hE9 hVv hkd9 hklo hst hcq hpa hF9 hn1 has hfn hcc hww hwt9
            refine hK9 _ _ ?_; refine' TurnW.rotP ?F ?N ?D ?pm ?J ?nm
            (case F => k_asm)
            (case N => k_asm)
            (case D => walk_at "dm")
            (case pm => (refine' rots7 (P := M) (P2 := H) (P3 := S) (P4 := Jn' ++ J) (P5 := [(ta, _)]) (P6 := [(va, _)]) (P7 := [(ka, _)]) ?ra ?rb ?rc ?rd ?re ?rf ?rg; (case ra => walk_at "rot"); (case rb => walk_at "rot"); (case rc => walk_at "rot"); (case rd => walk_at "rot"); (case re => walk_at "rot"); (case rf => walk_at "rot"); (case rg => walk_at "rot")))
            (case J => exact hes.2)
            (case nm => exact hes.1)
      · (refine Gen fun gG9 gK9 => ?_; obtain ⟨hpa, hF0, hF1, fa9, x9, hfa0, hfa1, hff, hxx, hxw⟩ := hOke; refine gK9 ?_; clear gK9 gG9)
        have hF0' : 0 ≤ f9 := by walk_at "ar"
        (refine Gen fun gG9 gK9 => ?_; obtain ⟨t8, t7, k9, hca⟩ := hca; refine gK9 ?_; clear gK9 gG9)
        (refine Gen fun gG9 gK9 => ?_; obtain ⟨d9, t6, t5, k8, hv9, hd9, hlt⟩ := hV.get hpa; refine gK9 ?_; clear gK9 gG9)
        dsimp only [Ent.cell] at hca hd9
        have hv9' : vs[(a9 : Int).toNat]? = some (.ref d9) := hv9
        have ha63 : (a9 : Int) < 2 ^ 63 := by have := hV.1; walk_at "ar"
        cases two with
        | false =>
          rcases vals with _ | ⟨v9, vals⟩
          · exact (show False from hst.wf).elim
          (refine Gen fun gG9 gK9 => ?_; obtain ⟨vvs', tv9, rfl, hVv'⟩ := hVv; refine gK9 ?_; clear gK9 gG9)
          have hb9 := hst.bits v9 (.head _)
          have hl6 := hVv'.len
          have hvz : vvs'.length < 1000 := by simp only [List.length_cons] at hv0 hl3; walk_at "ar"
          k_with "mine call" => guard_hyp gd63Z; first
            | k_dflt (refine' go2 (e := apu_R_pt) (P2 := [(va, _)]) (apu_tells hS hd0 hz hn hmx1 hF0' hF1 hff hfa0 hfa1 hxx hvz hb9) ?B362 ?F362 ?X362 ?N362 ?T362 ?hk362 ?d362 ?r362 ?rr362 ?hd362 ?hu362 ?_ ?_; (case B362 => k_asm); (case F362 => k_asm); (case X362 => k_asm); (case N362 => k_asm); (case T362 => k_asm); (case hk362 => first | exact rfl | assumption); (case d362 => walk_at "dmx"); (case r362 => walk_at "rot"); (case rr362 => walk_at "rot"); (case hd362 => walk_at "hdx"); (case hu362 => walk_at "hux"); rotate_left; intro e9 dx9 led9 h9 tk9 g9 F9 U9 R9 D9 hE9; (try dsimp only); rotate_left; intro r9 kk9 v1 v2 u9 q1 q2 h9 tk9 F9 N9 D9; dsimp only [List.cons_append, List.nil_append] at N9 D9; (refine Gen fun gG9 gK9 => ?_; obtain ⟨hq1, hq2, hq3⟩ := last_facts (p := vvs') (v := Value.int v2 u9) (by walk_at "ar"); refine gK9 ?_; clear gK9 gG9); (try k_sweep); (try dsimp only))
          k_sweep
          walk_at "st9"
          · refine hK9 _ _ ?_; refine' TurnW.rotPC ?F ?N ?D ?pm ?J ?nm
            (case F => k_asm)
            (case N => k_asm)
            (case D => walk_at "dm")
            (case pm => (refine' rots7 (P := M) (P2 := H) (P3 := S) (P4 := Jn ++ J) (P5 := [(ta, _)]) (P6 := [(va, _)]) (P7 := [(ka, _)]) ?ra ?rb ?rc ?rd ?re ?rf ?rg; (case ra => walk_at "rot"); (case rb => walk_at "rot"); (case rc => walk_at "rot"); (case rd => walk_at "rot"); (case re => walk_at "rot"); (case rf => walk_at "rot"); (case rg => walk_at "rot")))
            (case J => (refine' ev_next1 ?hm9 hJn hE' hVv' (by assumption) hklo hst (txt_of hff hxx) q1 q2 hmx rfl; (case hm9 => exact hm9)))
            (case nm => rw [hwe]; walk_at "ar")
          · (refine Gen fun gG9 gK9 => ?_; obtain ⟨er9, q9, hA9⟩ := hE9; refine gK9 ?_; clear gK9 gG9)
            simp only [List.append_assoc] at hA9
            (refine' thr_drop (G := _) hthr ?F ?U ?Z ?D ?A ?pm ?X; (case F => assumption); (case U => assumption); (case Z => assumption); (case D => assumption); (case A => assumption); (case pm => (refine' rots3G (P := M) (P2 := H) (P3 := J) (R := R) ?ra ?rb ?rc ?rd; (case ra => walk_at "rot"); (case rb => walk_at "rot"); (case rc => walk_at "rot"); (case rd => walk_at "rot"))); (case X => rw [← hcont]; show (ap1 σ mx f9 v9 >>= _) = _; unfold ap1; rw [txt_of hff hxx, q9]; rfl))
        | true =>
          rcases vals with _ | ⟨b9, vals⟩
          · exact (show False from hst.wf).elim
          rcases vals with _ | ⟨v9, vals⟩
          · exact (show False from hst.wf).elim
          (refine Gen fun gG9 gK9 => ?_; obtain ⟨vvs1, tb9, rfl, hVv1⟩ := hVv; refine gK9 ?_; clear gK9 gG9)
          (refine Gen fun gG9 gK9 => ?_; obtain ⟨vvs', tv9, rfl, hVv'⟩ := hVv1; refine gK9 ?_; clear gK9 gG9)
          have hb8 := hst.bits b9 (.head _)
          have hb9 := hst.bits v9 (.tail _ (.head _))
          have hl6 := hVv'.len
          have hvz : vvs'.length < 1000 := by simp only [List.length_cons] at hv0 hl3; walk_at "ar"
          k_with "mine call" => guard_hyp gd63Z; first
            | k_dflt (refine' go2 (e := apb_R_pt) (P2 := [(va, _)]) (apb_tells hS hd0 hz hn hmx1 hF0' hF1 hff hfa0 hfa1 hxx hvz hb9 hb8) ?B363 ?F363 ?X363 ?N363 ?T363 ?hk363 ?d363 ?r363 ?rr363 ?hd363 ?hu363 ?_ ?_; (case B363 => k_asm); (case F363 => k_asm); (case X363 => k_asm); (case N363 => k_asm); (case T363 => k_asm); (case hk363 => first | exact rfl | assumption); (case d363 => walk_at "dmx"); (case r363 => walk_at "rot"); (case rr363 => walk_at "rot"); (case hd363 => walk_at "hdx"); (case hu363 => walk_at "hux"); rotate_left; intro e9 dx9 led9 h9 tk9 g9 F9 U9 R9 D9 hE9; (try dsimp only); rotate_left; intro r9 kk9 v1 v2 u9 J2 hJ2 q1 q2 h9 tk9 F9 N9 D9; dsimp only [List.cons_append, List.nil_append] at N9 D9; (refine Gen fun gG9 gK9 => ?_; obtain ⟨hq1, hq2, hq3⟩ := last_facts (p := vvs') (v := Value.int v2 u9) (by walk_at "ar"); refine gK9 ?_; clear gK9 gG9); (try k_sweep); (try dsimp only))
          k_sweep
          walk_at "st9"
          · refine hK9 _ _ ?_; refine' TurnW.rotPC ?F ?N ?D ?pm ?J ?nm
            (case F => k_asm)
            (case N => k_asm)
            (case D => walk_at "dm")
            (case pm => (refine' rots8 (P8 := J2) (P := M) (P2 := H) (P3 := S) (P4 := Jn ++ J) (P5 := [(ta, _)]) (P6 := [(va, _)]) (P7 := [(ka, _)]) ?r0 ?ra ?rb ?rc ?rd ?re ?rf ?rg; (case r0 => walk_at "rot"); (case ra => walk_at "rot"); (case rb => walk_at "rot"); (case rc => walk_at "rot"); (case rd => walk_at "rot"); (case re => walk_at "rot"); (case rf => walk_at "rot"); (case rg => walk_at "rot")))
            (case J => (refine' ev_next2 ?hm9 hJn hE' hVv' (by assumption) hklo hst (txt_of hff hxx) q1 hJ2 q2 hmx rfl; (case hm9 => exact hm9)))
            (case nm => rw [hwe]; walk_at "ar")
          · (refine Gen fun gG9 gK9 => ?_; obtain ⟨er9, q9, hA9⟩ := hE9; refine gK9 ?_; clear gK9 gG9)
            simp only [List.append_assoc] at hA9
            (refine' thr_drop (G := _) hthr ?F ?U ?Z ?D ?A ?pm ?X; (case F => assumption); (case U => assumption); (case Z => assumption); (case D => assumption); (case A => assumption); (case pm => (refine' rots3G (P := M) (P2 := H) (P3 := J) (R := R) ?ra ?rb ?rc ?rd; (case ra => walk_at "rot"); (case rb => walk_at "rot"); (case rc => walk_at "rot"); (case rd => walk_at "rot"))); (case X => rw [← hcont]; show (ap2 σ mx f9 v9 b9 >>= _) = _; unfold ap2; rw [txt_of hff hxx, q9]; rfl)))) only [↓hidL]
end Mine
namespace Mine
open PySem PySem.Calls PyProof.Rows PySem.Spec
def marg_R_T (ce : Int × Int) (M J H R : Led) (K7 : Value → Led → Prop) : Prop := ∀ a, CellIn J a ce → K7 (.ref a) (M ++ (H ++ (J ++ R)))
def marg_R (ce : Int × Int) (M J H R : Led) (r : Value) (led' : Led) : Prop := ∀ K7 : Value → Led → Prop, marg_R_T ce M J H R K7 → K7 r led'
theorem marg_R_mk {ce : Int × Int} {M J H R : Led} {r : Value} {led' : Led} : led' = M ++ (H ++ (J ++ R)) → ∀ a, r = .ref a → CellIn J a ce → marg_R ce M J H R r led' := by
  intro a0 _ a1 a2
  subst a0
  subst a1
  exact fun K7 k7 => k7 _ a2
theorem marg_R_pt {ce : Int × Int} {M J H R : Led} (K7 : Value → Led → Prop) (k7 : marg_R_T ce M J H R K7) (r : Value) (led' : Led) (h7 : marg_R ce M J H R r led') : K7 r led' := h7 K7 k7
theorem marg_tells {w : World} {ma st sy c : Addr} {mx i : Int} {t : Tok} {xs : List Value} {hp : List (Int × Int)} {ct ce : Int × Int} {q : Nat} {M J H R : Led} (hM : MAt ma st sy mx xs M) (hH : StoreAt st sy hp J H) (hx : xs[i.toNat]? = some (.ref c)) (hi : 0 ≤ i) (hxl : xs.length < 1000) (hc : CellIn J c ct) (hz : hp.length < 90000) (hde : Der hp q ct ce) (h1 : ce.1 ≠ 1) :
    Tells w 673 [.ref ma, .int i t] 3 (M ++ (H ++ (J ++ R))) (marg_R ce M J H R) NoErr := by
  refine hidE ?_; simp (disch := k_dflt (
    refine hidW ?_
    intro dp un gd cn cs L a ccd cl outer A₀ base h₀ p loose mean mg mb m s Q E B F X N T hk dm hd hu hret hthr
    refine m_inst hM ?_; intro dm xl cd rt bg hs ks ws u0 n0 hm1 hm2 hm3
    refine store_inst hH ?_; intro dst hl stk trl h1' h2 h3 h4 h5 h6 h7 k1 k2 k3 k4 k5 k6 k7 u1 u2 u3 vs n1 hI1 hI2 hI3 hV
    have hlt : i < (xs.length : Int) := by
      have := (List.getElem?_eq_some_iff.mp hx).1
      walk_at "ar"
    rename Option (List Code) => gd64Z; (k_with "ar2" => guard_hyp gd64Z; first | with_reducible exact om138 this | with_reducible exact om139 hxl hlt | with_reducible exact op27 this)
    k_with "mine call" => guard_hyp gd64Z; (k_dflt (refine' go2n (e := globalise_R_pt) (globalise_tells hH hc hz hde h1) ?B365 ?F365 ?X365 ?N365 ?T365 ?hk365 ?d365 ?r365 ?rr365 ?hd365 ?hu365 ?_; (case B365 => k_asm); (case F365 => k_asm); (case X365 => k_asm); (case N365 => k_asm); (case T365 => k_asm); (case hk365 => first | exact rfl | assumption); (case d365 => walk_at "dmx"); (case r365 => walk_at "rot"); (case rr365 => walk_at "rot"); (case hd365 => walk_at "hdx"); (case hu365 => walk_at "hux"); intro a9 hc9 h9 tk9 F9 N9 D9; (try dsimp only [List.cons_append, List.nil_append] at N9 D9); (try k_sweep); (try dsimp only)))
    (revert X; k_fill; intro X; refine wpAny_call ?_; k_dflt ktr_enter; walk_at "loc"; refine genT ?_; intro tk9)
    walk_at "st9"
    all_goals (refine' out3 (P := M) (P2 := H) (P3 := J) hret ?F367 ?N367 ?D367 ?r367 ?rr367 ?rrr367 ?P; (case F367 => k_asm); (case N367 => k_asm); (case D367 => walk_at "dmx"); (case r367 => walk_at "rot"); (case rr367 => walk_at "rot"); (case rrr367 => walk_at "rot"); (case P => exact marg_R_mk rfl _ rfl hc9)))) only [↓hidL]
def muniA_R_T (st sy : Addr) (hp : List (Int × Int)) (i k : Int) (M J R : Led) (K7 : Value → Led → Prop) : Prop := ∀ H', StoreAt st sy (hp.set i.toNat (5, k)) J H' → K7 (.bool true) (M ++ (H' ++ (J ++ R)))
def muniA_R (st sy : Addr) (hp : List (Int × Int)) (i k : Int) (M J R : Led) (r : Value) (led' : Led) : Prop := ∀ K7 : Value → Led → Prop, muniA_R_T st sy hp i k M J R K7 → K7 r led'
theorem muniA_R_mk {st sy : Addr} {hp : List (Int × Int)} {i k : Int} {M J R : Led} {r : Value} {led' : Led} : ∀ H', StoreAt st sy (hp.set i.toNat (5, k)) J H' → led' = M ++ (H' ++ (J ++ R)) → r = .bool true → muniA_R st sy hp i k M J R r led' := by
  intro _ a0 a1 a2
  subst a1
  subst a2
  exact fun K7 k7 => k7 _ a0
theorem muniA_R_pt {st sy : Addr} {hp : List (Int × Int)} {i k : Int} {M J R : Led} (K7 : Value → Led → Prop) (k7 : muniA_R_T st sy hp i k M J R K7) (r : Value) (led' : Led) (h7 : muniA_R st sy hp i k M J R r led') : K7 r led' := h7 K7 k7
theorem muniA_tells {w : World} {ma st sy c v : Addr} {mx : Int} {xs : List Value} {hp : List (Int × Int)} {i k : Int} {M J H R : Led} (hM : MAt ma st sy mx xs M) (hH : StoreAt st sy hp J H) (hc : CellIn J c (0, i)) (hv : CellIn J v (5, k)) (hz : hp.length < 90000) (h0 : 0 ≤ i) (hi : hp[i.toNat]? = some (0, i)) :
    Tells w 680 [.ref ma, .ref c, .ref v] 9 (M ++ (H ++ (J ++ R))) (muniA_R st sy hp i k M J R) NoErr := by
  refine hidE ?_; simp (disch := k_dflt (
    refine hidW ?_
    intro dp un gd cn cs L a ccd cl outer A₀ base h₀ p loose mean mg mb m s Q E B F X N T hk dm hd hu hret hthr
    refine m_inst hM ?_; intro dm xl cd rt bg hs ks ws u0 n0 hm1 hm2 hm3
    rename Option (List Code) => gd65Z
    k_with "mine call" => guard_hyp gd65Z; (k_dflt (refine' go2n (e := uniA_R_pt) (uniA_tells hH hc hv hz h0 hi) ?B369 ?F369 ?X369 ?N369 ?T369 ?hk369 ?d369 ?r369 ?rr369 ?hd369 ?hu369 ?_; (case B369 => k_asm); (case F369 => k_asm); (case X369 => k_asm); (case N369 => k_asm); (case T369 => k_asm); (case hk369 => first | exact rfl | assumption); (case d369 => walk_at "dmx"); (case r369 => walk_at "rot"); (case rr369 => walk_at "rot"); (case hd369 => walk_at "hdx"); (case hu369 => walk_at "hux"); intro H9 hH9 h9 tk9 F9 N9 D9; (try dsimp only [List.cons_append, List.nil_append] at N9 D9); (try k_sweep); (try dsimp only)))
    (revert X; k_fill; intro X; refine wpAny_call ?_; k_dflt ktr_enter; walk_at "loc"; refine genT ?_; intro tk9)
    walk_at "st9"
    all_goals (refine' out3 (P := M) (P2 := _) (P3 := J) hret ?F371 ?N371 ?D371 ?r371 ?rr371 ?rrr371 ?P; (case F371 => k_asm); (case N371 => k_asm); (case D371 => walk_at "dmx"); (case r371 => walk_at "rot"); (case rr371 => walk_at "rot"); (case rrr371 => walk_at "rot"); (case P => exact muniA_R_mk _ (by assumption) rfl rfl)))) only [↓hidL]
def muniB_R_T (u k : Int) (M J H R : Led) (K7 : Value → Led → Prop) : Prop := K7 (.bool (decide (u = k))) (M ++ (H ++ (J ++ R)))
def muniB_R (u k : Int) (M J H R : Led) (r : Value) (led' : Led) : Prop := ∀ K7 : Value → Led → Prop, muniB_R_T u k M J H R K7 → K7 r led'
theorem muniB_R_mk {u k : Int} {M J H R : Led} {r : Value} {led' : Led} : led' = M ++ (H ++ (J ++ R)) → r = .bool (decide (u = k)) → muniB_R u k M J H R r led' := by
  intro a0 a1
  subst a0
  subst a1
  exact fun K7 k7 => k7
theorem muniB_R_pt {u k : Int} {M J H R : Led} (K7 : Value → Led → Prop) (k7 : muniB_R_T u k M J H R K7) (r : Value) (led' : Led) (h7 : muniB_R u k M J H R r led') : K7 r led' := h7 K7 k7
theorem muniB_tells {w : World} {ma st sy c v : Addr} {mx : Int} {xs : List Value} {hp : List (Int × Int)} {u k : Int} {M J H R : Led} (hM : MAt ma st sy mx xs M) (hH : StoreAt st sy hp J H) (hc : CellIn J c (5, u)) (hv : CellIn J v (5, k)) (hz : hp.length < 90000) :
    Tells w 680 [.ref ma, .ref c, .ref v] 9 (M ++ (H ++ (J ++ R))) (muniB_R u k M J H R) NoErr := by
  refine hidE ?_; simp (disch := k_dflt (
    refine hidW ?_
    intro dp un gd cn cs L a ccd cl outer A₀ base h₀ p loose mean mg mb m s Q E B F X N T hk dm hd hu hret hthr
    refine m_inst hM ?_; intro dm xl cd rt bg hs ks ws u0 n0 hm1 hm2 hm3
    rename Option (List Code) => gd66Z
    k_with "mine call" => guard_hyp gd66Z; (k_dflt (refine' go2n (e := uniB_R_pt) (uniB_tells hH hc hv hz) ?B373 ?F373 ?X373 ?N373 ?T373 ?hk373 ?d373 ?r373 ?rr373 ?hd373 ?hu373 ?_; (case B373 => k_asm); (case F373 => k_asm); (case X373 => k_asm); (case N373 => k_asm); (case T373 => k_asm); (case hk373 => first | exact rfl | assumption); (case d373 => walk_at "dmx"); (case r373 => walk_at "rot"); (case rr373 => walk_at "rot"); (case hd373 => walk_at "hdx"); (case hu373 => walk_at "hux"); intro  h9 tk9 F9 N9 D9; (try dsimp only [List.cons_append, List.nil_append] at N9 D9); (try k_sweep); (try dsimp only)))
    (revert X; k_fill; intro X; refine wpAny_call ?_; k_dflt ktr_enter; walk_at "loc"; refine genT ?_; intro tk9)
    walk_at "st9"
    all_goals (refine' out3 (P := M) (P2 := H) (P3 := J) hret ?F375 ?N375 ?D375 ?r375 ?rr375 ?rrr375 ?P; (case F375 => k_asm); (case N375 => k_asm); (case D375 => walk_at "dmx"); (case r375 => walk_at "rot"); (case rr375 => walk_at "rot"); (case rrr375 => walk_at "rot"); (case P => exact muniB_R_mk rfl rfl)))) only [↓hidL]
end Mine
namespace Mine
open PySem PySem.Calls PyProof.Rows PySem.Spec
theorem Rot.four {P P2 P3 P4 led R1 R2 R3 R : Led} (r1 : Rot P led R1) (r2 : Rot P2 R1 R2) (r3 : Rot P3 R2 R3) (r4 : Rot P4 R3 R) : led.Perm (P ++ (P2 ++ (P3 ++ (P4 ++ R)))) := r1.perm.trans (List.Perm.append_left P (Rot.three r2 r3 r4))
section
variable {w : World} {f : Addr} {args : List Value} {D : Nat} {Ret : Value → Led → Prop} {Err : Addr → Led → Prop}
  {dp un : Nat} {gd : Option (List Code)} {cn : Str} {cs : Scope} {L a : Addr} {ccd : Value} {cl : List (Str × Addr)} {outer : List Env} {A₀ : Around} {base h₀ : Heap} {p : Program} {loose : List Str} {mean : ExcName → Option Value}
  {mg mb : Str → Option Value} {m : Str → Option Value} {s : Shared} {Q E : Value → Shared → Prop} {led P P2 P3 P4 R R1 R2 R3 : Led}
theorem go4 {T9 : (Value → Led → Prop) → Prop} (C : Tells w f args D (P ++ (P2 ++ (P3 ++ (P4 ++ R)))) Ret Err) (B : Below A₀ base outer h₀) (F : Fr h₀ L s.heap m) (X : (mk.heap_1 w.params).In h₀) (N : News h₀ L s.heap led) (T : Top p loose mean mg mb h₀) (hk : cs.kind = .function) (d : Dm led) (r1 : Rot P led R1) (r2 : Rot P2 R1 R2) (r3 : Rot P3 R2 R3) (r4 : Rot P4 R3 R)
    (hd : dp + D < recursionLimit) (hu : un + 8 * D < cLine)
    (e : ∀ K : Value → Led → Prop, T9 K → ∀ r led', Ret r led' → K r led') (ret : T9 fun r led' => ∀ h' tk', Fr h₀ L h' m → News h₀ L h' led' → Dm led' → Q r { s with heap := h', toks := tk' })
    (thr : ∀ e dx led' h' tk' g, Fr h₀ L g m → g.UpToSlots h' → Rz base (envX cn cs L a ccd cl :: outer) e dx led' h' → Dm led' → Err dx led' → E (.ref e) { s with heap := h', toks := tk' }) :
    wpAny (model PySem.Challenge.rw_sa0166_01.row.prog w) (ktrTop dp un gd cn cs L a ccd cl outer) (call (.ref f) args) Q E s :=
  C _ _ _ _ _ _ _ _ _ _ _ _ _ _ _ _ _ _ _ _ _ _ B F X (News.perm (Rot.four r1 r2 r3 r4) N) T hk (Dm.perm (Rot.four r1 r2 r3 r4) d) hd hu (fun r led' h' tk' F N D hR => e _ ret r led' hR h' tk' F N D) thr
theorem go4n {T9 : (Value → Led → Prop) → Prop} (C : Tells w f args D (P ++ (P2 ++ (P3 ++ (P4 ++ R)))) Ret NoErr) (B : Below A₀ base outer h₀) (F : Fr h₀ L s.heap m) (X : (mk.heap_1 w.params).In h₀) (N : News h₀ L s.heap led) (T : Top p loose mean mg mb h₀) (hk : cs.kind = .function) (d : Dm led) (r1 : Rot P led R1) (r2 : Rot P2 R1 R2) (r3 : Rot P3 R2 R3) (r4 : Rot P4 R3 R)
    (hd : dp + D < recursionLimit) (hu : un + 8 * D < cLine)
    (e : ∀ K : Value → Led → Prop, T9 K → ∀ r led', Ret r led' → K r led') (ret : T9 fun r led' => ∀ h' tk', Fr h₀ L h' m → News h₀ L h' led' → Dm led' → Q r { s with heap := h', toks := tk' }) :
    wpAny (model PySem.Challenge.rw_sa0166_01.row.prog w) (ktrTop dp un gd cn cs L a ccd cl outer) (call (.ref f) args) Q E s :=
  go4 C B F X N T hk d r1 r2 r3 r4 hd hu e ret fun _ _ _ _ _ _ _ _ _ _ hE => hE.elim
end
inductive isvA_R (st sy : Addr) (σ : Sy) (mx i : Int) (M S J R : Led) (hp : List (Int × Int)) (t : Tm) (r : Value) (led' : Led) : Prop
  | mk : ∀ Jn, ∀ H', ∀ v, TupL Jn → evT σ mx t = .ok v → StoreAt st sy (hp.set i.toNat (5, v)) (Jn ++ J) H' → r = .bool true → led' = M ++ (H' ++ (S ++ ((Jn ++ J) ++ R))) → isvA_R st sy σ mx i M S J R hp t r led'
def isvA_R_T (st sy : Addr) (σ : Sy) (mx i : Int) (M S J R : Led) (hp : List (Int × Int)) (t : Tm) (K7 : Value → Led → Prop) : Prop := ∀ Jn, ∀ H', ∀ v, TupL Jn → evT σ mx t = .ok v → StoreAt st sy (hp.set i.toNat (5, v)) (Jn ++ J) H' → K7 (.bool true) (M ++ (H' ++ (S ++ ((Jn ++ J) ++ R))))
theorem isvA_R_pt {st sy : Addr} {σ : Sy} {mx i : Int} {M S J R : Led} {hp : List (Int × Int)} {t : Tm} (K7 : Value → Led → Prop) (k7 : isvA_R_T st sy σ mx i M S J R hp t K7) (r : Value) (led' : Led) (h7 : isvA_R st sy σ mx i M S J R hp t r led') : K7 r led' := by
  obtain ⟨_, _, _, a0, a1, a2, a3, a4⟩ := h7
  subst a3
  subst a4
  exact k7 _ _ _ a0 a1 a2
theorem isvA_tells {w : World} {ma st sy c1 c2 : Addr} {σ : Sy} {mx i : Int} {xs : List Value} {M H S J R : Led} {hp : List (Int × Int)} {ct : Int × Int} {t : Tm} {as : List Nat} {n : Nat} (hM : MAt ma st sy mx xs M) (hx1 : xs[1]? = some (.ref c1)) (hx2 : xs[2]? = some (.ref c2)) (hxl : xs.length = 3) (hH : StoreAt st sy hp J H) (hS : SymAt w sy σ S) (hd0 : σ.Dot) (hz : σ.Small n) (hn : n < 50000) (hmx : mx ≤ 70) (hpz : hp.length < 80000)
    (hc1 : CellIn J c1 (0, i)) (hi : 0 ≤ i) (hpi : hp[i.toNat]? = some (0, i)) (hc : CellIn J c2 ct) (hL : Lies hp ct t as) (hnd : as.Nodup) (hg : t.Good σ) (hts : t.size < 400) :
    Tells w 553 [.ref ma] 24 (M ++ (H ++ (S ++ (J ++ R)))) (isvA_R st sy σ mx i M S J R hp t) (fun dx led' => ∃ er, evT σ mx t = .error er ∧ ErrAt w sy σ n er (M ++ (H ++ (J ++ R))) dx led') := by
  refine hidE ?_; simp (disch := k_dflt (
    refine hidW ?_
    intro dp un gd cn cs L a ccd cl outer A₀ base h₀ p loose mean mg mb m s Q E B F X N T hk dm hd hu hret hthr
    refine m_inst hM ?_; intro dma xl cd rt bg hs ks ws u0 n0 hm1 hm2 hm3
    (refine Gen fun gG9 gK9 => ?_; obtain ⟨hdr, hdr1⟩ := lies_der hL; refine gK9 ?_; clear gK9 gG9)
    rename Option (List Code) => gd67Z; (k_with "ar2" => guard_hyp gd67Z; first | with_reducible exact om108 hxl)
    k_with "mine call" => guard_hyp gd67Z; first
      | k_dflt (refine' go3n (e := marg_R_pt) (marg_tells hM hH hx2 (by decide) (by walk_at "ar") hc (Nat.lt_trans hpz (by decide)) hdr hdr1) ?B381 ?F381 ?X381 ?N381 ?T381 ?hk381 ?d381 ?r381 ?rr381 ?rrr381 ?hd381 ?hu381 ?_; (case B381 => k_asm); (case F381 => k_asm); (case X381 => k_asm); (case N381 => k_asm); (case T381 => k_asm); (case hk381 => first | exact rfl | assumption); (case d381 => walk_at "dmx"); (case r381 => walk_at "rot"); (case rr381 => walk_at "rot"); (case rrr381 => walk_at "rot"); (case hd381 => walk_at "hdx"); (case hu381 => walk_at "hux"); intro a9 hc9 h9 tk9 F9 N9 D9; (try dsimp only [List.cons_append, List.nil_append] at N9 D9); (try k_sweep); (try dsimp only))
      | k_dflt (refine' go4 (e := eval_R_pt) (eval_tells hM hH hS hd0 hz hn hmx hpz hc9 hL hnd hg hts) ?B382 ?F382 ?X382 ?N382 ?T382 ?hk382 ?d382 ?r382 ?rr382 ?rrr382 ?rrrr382 ?hd382 ?hu382 ?_ ?_; (case B382 => k_asm); (case F382 => k_asm); (case X382 => k_asm); (case N382 => k_asm); (case T382 => k_asm); (case hk382 => first | exact rfl | assumption); (case d382 => walk_at "dmx"); (case r382 => walk_at "rot"); (case rr382 => walk_at "rot"); (case rrr382 => walk_at "rot"); (case rrrr382 => walk_at "rot"); (case hd382 => walk_at "hdx"); (case hu382 => walk_at "hux"); rotate_left; intro e9 dx9 led9 h9 tk9 g9 F9 U9 R9 D9 hE9; (try dsimp only); rotate_left; intro Jn v u hJn hev h9 tk9 F9 N9 D9; have hHn : StoreAt st sy hp (Jn ++ J) H := hH.mono (fun _ h => List.mem_append_right _ h); have hc1n : CellIn (Jn ++ J) c1 (0, i) := hc1.mono (fun _ h => List.mem_append_right _ h); (try dsimp only [List.cons_append, List.nil_append] at N9 D9); (try k_sweep); (try dsimp only))
      | k_dflt (refine' go3n (e := marg_R_pt) (marg_tells hM hHn hx1 (by decide) (by walk_at "ar") hc1n (Nat.lt_trans hpz (by decide)) (.self hi hpi) (by simp)) ?B383 ?F383 ?X383 ?N383 ?T383 ?hk383 ?d383 ?r383 ?rr383 ?rrr383 ?hd383 ?hu383 ?_; (case B383 => k_asm); (case F383 => k_asm); (case X383 => k_asm); (case N383 => k_asm); (case T383 => k_asm); (case hk383 => first | exact rfl | assumption); (case d383 => walk_at "dmx"); (case r383 => walk_at "rot"); (case rr383 => walk_at "rot"); (case rrr383 => walk_at "rot"); (case hd383 => walk_at "hdx"); (case hu383 => walk_at "hux"); intro b9 hb9 h9 tk9 F9 N9 D9; (try dsimp only [List.cons_append, List.nil_append] at N9 D9); (try k_sweep); (try dsimp only))
      | k_dflt (refine' go3n (e := muniA_R_pt) (P3 := (_, tupO [.int 5 _, .int v u] _) :: (Jn ++ J)) (muniA_tells hM (hHn.mono (fun _ h => .tail _ h)) (hb9.mono (fun _ h => .tail _ h)) (cell_head rfl rfl) (Nat.lt_trans hpz (by decide)) hi hpi) ?B384 ?F384 ?X384 ?N384 ?T384 ?hk384 ?d384 ?r384 ?rr384 ?rrr384 ?hd384 ?hu384 ?_; (case B384 => k_asm); (case F384 => k_asm); (case X384 => k_asm); (case N384 => k_asm); (case T384 => k_asm); (case hk384 => first | exact rfl | assumption); (case d384 => walk_at "dmx"); (case r384 => walk_at "rot"); (case rr384 => walk_at "rot"); (case rrr384 => walk_at "rot"); (case hd384 => walk_at "hdx"); (case hu384 => walk_at "hux"); intro H9 hH9 h9 tk9 F9 N9 D9; (try dsimp only [List.cons_append, List.nil_append] at N9 D9); (try k_sweep); (try dsimp only))
    (revert X; k_fill; intro X; refine wpAny_call ?_; k_dflt ktr_enter; walk_at "loc"; refine genT ?_; intro tk9)
    walk_at "st9"
    · (refine' outP (G := _) hret ?F8 ?N8 ?D8 ?p8 ?R8; (case F8 => k_asm); (case N8 => k_asm); (case D8 => walk_at "dm"); (case p8 => (refine' rots5G (P := M) (P2 := H9) (P3 := S) (P4 := (_, tupO [.int 5 _, .int v u] _) :: (Jn ++ J)) (R := R) ?ra ?rb ?rc ?rd ?re; (case ra => walk_at "rot"); (case rb => walk_at "rot"); (case rc => walk_at "rot"); (case rd => walk_at "rot"); (case re => walk_at "rot"))); (case R8 => exact ⟨_ :: Jn, _, _, tupL_cons rfl hJn, hev, hH9, rfl, rfl⟩))
    · (refine' hthr _ _ _ _ _ _ ?F386 ?U386 ?R386 ?D386 ?P; (case U386 => assumption); (case F386 => assumption); (case R386 => assumption); (case D386 => assumption); (case P => exact hE9)))) only [↓hidL]
inductive isvB_R (σ : Sy) (mx uu : Int) (M H S J R : Led) (t : Tm) (r : Value) (led' : Led) : Prop
  | mk : ∀ Jn, ∀ v, TupL Jn → evT σ mx t = .ok v → r = .bool (decide (uu = v)) → led' = M ++ (H ++ (S ++ ((Jn ++ J) ++ R))) → isvB_R σ mx uu M H S J R t r led'
def isvB_R_T (σ : Sy) (mx uu : Int) (M H S J R : Led) (t : Tm) (K7 : Value → Led → Prop) : Prop := ∀ Jn, ∀ v, TupL Jn → evT σ mx t = .ok v → K7 (.bool (decide (uu = v))) (M ++ (H ++ (S ++ ((Jn ++ J) ++ R))))
theorem isvB_R_pt {σ : Sy} {mx uu : Int} {M H S J R : Led} {t : Tm} (K7 : Value → Led → Prop) (k7 : isvB_R_T σ mx uu M H S J R t K7) (r : Value) (led' : Led) (h7 : isvB_R σ mx uu M H S J R t r led') : K7 r led' := by
  obtain ⟨_, _, a0, a1, a2, a3⟩ := h7
  subst a2
  subst a3
  exact k7 _ _ a0 a1
theorem isvB_tells {w : World} {ma st sy c1 c2 : Addr} {σ : Sy} {mx uu : Int} {xs : List Value} {M H S J R : Led} {hp : List (Int × Int)} {ct : Int × Int} {t : Tm} {as : List Nat} {n : Nat} (hM : MAt ma st sy mx xs M) (hx1 : xs[1]? = some (.ref c1)) (hx2 : xs[2]? = some (.ref c2)) (hxl : xs.length = 3) (hH : StoreAt st sy hp J H) (hS : SymAt w sy σ S) (hd0 : σ.Dot) (hz : σ.Small n) (hn : n < 50000) (hmx : mx ≤ 70) (hpz : hp.length < 80000)
    (hc1 : CellIn J c1 (5, uu)) (hc : CellIn J c2 ct) (hL : Lies hp ct t as) (hnd : as.Nodup) (hg : t.Good σ) (hts : t.size < 400) :
    Tells w 553 [.ref ma] 24 (M ++ (H ++ (S ++ (J ++ R)))) (isvB_R σ mx uu M H S J R t) (fun dx led' => ∃ er, evT σ mx t = .error er ∧ ErrAt w sy σ n er (M ++ (H ++ (J ++ R))) dx led') := by
  refine hidE ?_; simp (disch := k_dflt (
    refine hidW ?_
    intro dp un gd cn cs L a ccd cl outer A₀ base h₀ p loose mean mg mb m s Q E B F X N T hk dm hd hu hret hthr
    refine m_inst hM ?_; intro dma xl cd rt bg hs ks ws u0 n0 hm1 hm2 hm3
    (refine Gen fun gG9 gK9 => ?_; obtain ⟨hdr, hdr1⟩ := lies_der hL; refine gK9 ?_; clear gK9 gG9)
    rename Option (List Code) => gd68Z; (k_with "ar2" => guard_hyp gd68Z; first | with_reducible exact om108 hxl)
    k_with "mine call" => guard_hyp gd68Z; first
      | k_dflt (refine' go3n (e := marg_R_pt) (marg_tells hM hH hx2 (by decide) (by walk_at "ar") hc (Nat.lt_trans hpz (by decide)) hdr hdr1) ?B388 ?F388 ?X388 ?N388 ?T388 ?hk388 ?d388 ?r388 ?rr388 ?rrr388 ?hd388 ?hu388 ?_; (case B388 => k_asm); (case F388 => k_asm); (case X388 => k_asm); (case N388 => k_asm); (case T388 => k_asm); (case hk388 => first | exact rfl | assumption); (case d388 => walk_at "dmx"); (case r388 => walk_at "rot"); (case rr388 => walk_at "rot"); (case rrr388 => walk_at "rot"); (case hd388 => walk_at "hdx"); (case hu388 => walk_at "hux"); intro a9 hc9 h9 tk9 F9 N9 D9; (try dsimp only [List.cons_append, List.nil_append] at N9 D9); (try k_sweep); (try dsimp only))
      | k_dflt (refine' go4 (e := eval_R_pt) (eval_tells hM hH hS hd0 hz hn hmx hpz hc9 hL hnd hg hts) ?B389 ?F389 ?X389 ?N389 ?T389 ?hk389 ?d389 ?r389 ?rr389 ?rrr389 ?rrrr389 ?hd389 ?hu389 ?_ ?_; (case B389 => k_asm); (case F389 => k_asm); (case X389 => k_asm); (case N389 => k_asm); (case T389 => k_asm); (case hk389 => first | exact rfl | assumption); (case d389 => walk_at "dmx"); (case r389 => walk_at "rot"); (case rr389 => walk_at "rot"); (case rrr389 => walk_at "rot"); (case rrrr389 => walk_at "rot"); (case hd389 => walk_at "hdx"); (case hu389 => walk_at "hux"); rotate_left; intro e9 dx9 led9 h9 tk9 g9 F9 U9 R9 D9 hE9; (try dsimp only); rotate_left; intro Jn v u hJn hev h9 tk9 F9 N9 D9; have hHn : StoreAt st sy hp (Jn ++ J) H := hH.mono (fun _ h => List.mem_append_right _ h); have hc1n : CellIn (Jn ++ J) c1 (5, uu) := hc1.mono (fun _ h => List.mem_append_right _ h); (try dsimp only [List.cons_append, List.nil_append] at N9 D9); (try k_sweep); (try dsimp only))
      | k_dflt (refine' go3n (e := marg_R_pt) (marg_tells hM hHn hx1 (by decide) (by walk_at "ar") hc1n (Nat.lt_trans hpz (by decide)) (.val (by simp) (by simp)) (by simp)) ?B390 ?F390 ?X390 ?N390 ?T390 ?hk390 ?d390 ?r390 ?rr390 ?rrr390 ?hd390 ?hu390 ?_; (case B390 => k_asm); (case F390 => k_asm); (case X390 => k_asm); (case N390 => k_asm); (case T390 => k_asm); (case hk390 => first | exact rfl | assumption); (case d390 => walk_at "dmx"); (case r390 => walk_at "rot"); (case rr390 => walk_at "rot"); (case rrr390 => walk_at "rot"); (case hd390 => walk_at "hdx"); (case hu390 => walk_at "hux"); intro b9 hb9 h9 tk9 F9 N9 D9; (try dsimp only [List.cons_append, List.nil_append] at N9 D9); (try k_sweep); (try dsimp only))
      | k_dflt (refine' go3n (e := muniB_R_pt) (P3 := (_, tupO [.int 5 _, .int v u] _) :: (Jn ++ J)) (muniB_tells hM (hHn.mono (fun _ h => .tail _ h)) (hb9.mono (fun _ h => .tail _ h)) (cell_head rfl rfl) (Nat.lt_trans hpz (by decide))) ?B391 ?F391 ?X391 ?N391 ?T391 ?hk391 ?d391 ?r391 ?rr391 ?rrr391 ?hd391 ?hu391 ?_; (case B391 => k_asm); (case F391 => k_asm); (case X391 => k_asm); (case N391 => k_asm); (case T391 => k_asm); (case hk391 => first | exact rfl | assumption); (case d391 => walk_at "dmx"); (case r391 => walk_at "rot"); (case rr391 => walk_at "rot"); (case rrr391 => walk_at "rot"); (case hd391 => walk_at "hdx"); (case hu391 => walk_at "hux"); intro  h9 tk9 F9 N9 D9; (try dsimp only [List.cons_append, List.nil_append] at N9 D9); (try k_sweep); (try dsimp only))
    (revert X; k_fill; intro X; refine wpAny_call ?_; k_dflt ktr_enter; walk_at "loc"; refine genT ?_; intro tk9)
    walk_at "st9"
    · (refine' outP (G := _) hret ?F8 ?N8 ?D8 ?p8 ?R8; (case F8 => k_asm); (case N8 => k_asm); (case D8 => walk_at "dm"); (case p8 => (refine' rots5G (P := M) (P2 := H) (P3 := S) (P4 := (_, tupO [.int 5 _, .int v u] _) :: (Jn ++ J)) (R := R) ?ra ?rb ?rc ?rd ?re; (case ra => walk_at "rot"); (case rb => walk_at "rot"); (case rc => walk_at "rot"); (case rd => walk_at "rot"); (case re => walk_at "rot"))); (case R8 => exact ⟨_ :: Jn, _, tupL_cons rfl hJn, hev, rfl, rfl⟩))
    · (refine' hthr _ _ _ _ _ _ ?F393 ?U393 ?R393 ?D393 ?P; (case U393 => assumption); (case F393 => assumption); (case R393 => assumption); (case D393 => assumption); (case P => exact hE9)))) only [↓hidL]
end Mine
namespace Mine
open PySem PySem.Calls PyProof.Rows PySem.Spec
inductive StepsRet (w : World) (pl sl sy st : Addr) (σ : Sy) (n : Nat) (room : Int) (svs : List Value) (R : Led) (r : Value) (led' : Led) : Prop
  | mk : ∀ P', ∀ S', ∀ σ', ∀ J, ∀ x, ∀ new, ∀ k', PoolAt pl sl P' → SymAt w sy σ' S' → σ.Le σ' → σ'.Dot → σ'.Small (n + x.size) → (x.size : Int) ≤ 2 * room + 1 → x.Good σ' → TmV J r x → StepsV J new (x.post svs.length) → led' = P' ++ (S' ++ ([(st, listOf (svs ++ new).toArray k')] ++ (J ++ R))) → StepsRet w pl sl sy st σ n room svs R r led'
def StepsRet_T (w : World) (pl sl sy st : Addr) (σ : Sy) (n : Nat) (room : Int) (svs : List Value) (R : Led) (K7 : Value → Led → Prop) : Prop := ∀ (r : Value), ∀ P', ∀ S', ∀ σ', ∀ J, ∀ x, ∀ new, ∀ k', PoolAt pl sl P' → SymAt w sy σ' S' → σ.Le σ' → σ'.Dot → σ'.Small (n + x.size) → (x.size : Int) ≤ 2 * room + 1 → x.Good σ' → TmV J r x → StepsV J new (x.post svs.length) → K7 (r) (P' ++ (S' ++ ([(st, listOf (svs ++ new).toArray k')] ++ (J ++ R))))
theorem uWords_ne : ∀ x ∈ uWords, x ≠ Str.ofString "." := by decide
theorem bWords_ne : ∀ x ∈ bWords, x ≠ Str.ofString "." := by decide
theorem getD_mem {α : Type} {l : List α} {i : Nat} {d : α} (h : i < l.length) : l.getD i d ∈ l := by
  rw [List.getD_eq_getElem?_getD, List.getElem?_eq_getElem h]; exact List.getElem_mem h
section
variable {w : World} {pl sl sy st : Addr} {σ σ1 σ2 : Sy} {n kk k1 k2 k3 : Nat} {room : Int} {svs vs' new1 new2 : List Value} {R J J1 J2 P' S' : Led} {a b c d : Addr} {v v1 v2 : Value} {x y : Tm} {t u u2 t1 t2 : Tok} {ws : Str} {p q : Int} {kz : Nat}
theorem StepsRet.leaf (hP : PoolAt pl sl P') (hS : SymAt w sy σ1 S') (hle : σ.Le σ1) (hd : σ1.Dot) (hz : σ1.Small (n + 1)) (h0 : 0 ≤ room) (hv : TmV J v x) (hl : x.Leaf) :
    StepsRet w pl sl sy st σ n room svs R v (P' ++ (S' ++ ([(st, listOf (svs ++ [v]).toArray kk)] ++ (J ++ R)))) := by
  refine ⟨P', S', σ1, J, x, [v], kk, hP, hS, hle, hd, ?_, ?_, Tm.good_leaf hl, hv, ?_, rfl⟩
  · rw [Tm.leaf_size hl]; exact hz
  · rw [Tm.leaf_size hl]; (first | with_reducible exact om227 h0 | omega)
  · rw [Tm.leaf_post hl]; exact StepsV.one (.leaf hv hl)
theorem StepsRet.one (hP : PoolAt pl sl P') (hS : SymAt w sy (σ1.func ws 1) S')
    (m1 : (a, tupO [.str (Str.ofString "s") t, .int (σ1.funcN ws 1) u, .ref b] k1) ∈ J) (m2 : (b, tupO [v] k2) ∈ J) (m3 : (c, tupO [.int (σ1.funcN ws 1) u2, .ref d] k3) ∈ J) (m4 : (d, listOf #[.int p t1] 0) ∈ J)
    (hv : TmV J1 v x) (i1 : Inc J1 J) (hs : StepsV J1 new1 (x.post svs.length)) (hg : x.Good σ1) (hle : σ.Le σ1) (hd : σ1.Dot) (hz : σ1.Small (n + x.size)) (hx : ws ∈ uWords) (hsz : (x.size : Int) ≤ 2 * (room - 1) + 1) (hnl : new1.length = x.size)
    (hp : p = ((svs ++ new1).length : Int) - 1) (hvs : vs' = svs ++ new1 ++ [.ref c]) (hn : n + x.size < 80000) :
    StepsRet w pl sl sy st σ n room svs R (.ref a) (P' ++ (S' ++ ([(st, listOf vs'.toArray kk)] ++ (J ++ R)))) := by
  refine ⟨P', S', _, J, .s1 (σ1.funcN ws 1) x, new1 ++ [.ref c], kk, hP, hS, hle.trans le_func, dot_func hd, small_func hz, ?_, ⟨func_ok hd hx (uWords_ne _ hx) hz (by (first | with_reducible exact om223 | with_reducible exact om225 hsz | with_reducible exact om231 hn | omega)), Tm.Good.mono le_func hg⟩, .s1 m1 m2 (hv.mono i1.mem), ?_, by rw [hvs, List.append_assoc]⟩
  · show ((x.size + 1 : Nat) : Int) ≤ _
    (first | with_reducible exact om223 | with_reducible exact om225 hsz | with_reducible exact om231 hn | omega)
  · refine StepsV.app (hs.mono i1.mem) (StepsV.one ?_)
    have e : p = (svs.length : Int) + x.size - 1 := by rw [hp, List.length_append, hnl]; (first | with_reducible exact om223 | with_reducible exact om225 hsz | with_reducible exact om231 hn | omega)
    rw [← e]
    exact .app1 m3 m4
theorem half (r : Int) : (r - 1).fdiv 2 + r.fdiv 2 = r - 1 := by
  rw [Int.fdiv_eq_ediv_of_nonneg _ (by decide), Int.fdiv_eq_ediv_of_nonneg _ (by decide)]; (first | with_reducible exact op33 | omega)
theorem StepsRet.two (hP : PoolAt pl sl P') (hS : SymAt w sy (σ2.func ws 2) S')
    (m1 : (a, tupO [.str (Str.ofString "s") t, .int (σ2.funcN ws 2) u, .ref b] k1) ∈ J) (m2 : (b, tupO [v1, v2] k2) ∈ J) (m3 : (c, tupO [.int (σ2.funcN ws 2) u2, .ref d] k3) ∈ J) (m4 : (d, listOf #[.int p t1, .int q t2] kz) ∈ J)
    (hv1 : TmV J1 v1 x) (hv2 : TmV J2 v2 y) (i1 : Inc J1 J) (i2 : Inc J2 J) (hs1 : StepsV J1 new1 (x.post svs.length)) (hs2 : StepsV J2 new2 (y.post (svs ++ new1).length)) (hle1 : σ.Le σ1) (hle2 : σ1.Le σ2) (hg1 : x.Good σ1) (hg2 : y.Good σ2) (hd : σ2.Dot) (hz : σ2.Small (n + x.size + y.size)) (hx : ws ∈ bWords)
    (hsz1 : (x.size : Int) ≤ 2 * (room - 1).fdiv 2 + 1) (hsz2 : (y.size : Int) ≤ 2 * room.fdiv 2 + 1) (hn1 : new1.length = x.size) (hn2 : new2.length = y.size)
    (hp : p = ((svs ++ new1).length : Int) - 1) (hq : q = ((svs ++ (new1 ++ new2)).length : Int) - 1) (hvs : vs' = svs ++ (new1 ++ new2) ++ [.ref c]) (hn : n + x.size + y.size < 80000) :
    StepsRet w pl sl sy st σ n room svs R (.ref a) (P' ++ (S' ++ ([(st, listOf vs'.toArray kk)] ++ (J ++ R)))) := by
  have hh := half room
  refine ⟨P', S', _, J, .s2 (σ2.funcN ws 2) x y, new1 ++ (new2 ++ [.ref c]), kk, hP, hS, (hle1.trans hle2).trans le_func, dot_func hd, ?_, ?_, ⟨func_ok hd hx (bWords_ne _ hx) hz (by (first | with_reducible exact om216 hn | with_reducible exact om217 | with_reducible exact om223 | with_reducible exact op17 hsz1 hsz2 hh | omega)), Tm.Good.mono (hle2.trans le_func) hg1, Tm.Good.mono le_func hg2⟩, .s2 m1 m2 (hv1.mono i1.mem) (hv2.mono i2.mem), ?_, by rw [hvs]; simp only [List.append_assoc]⟩
  · show (σ2.func ws 2).Small (n + (x.size + y.size + 1))
    rw [← Nat.add_assoc, ← Nat.add_assoc]; exact small_func hz
  · show ((x.size + y.size + 1 : Nat) : Int) ≤ _
    (first | with_reducible exact om216 hn | with_reducible exact om217 | with_reducible exact om223 | with_reducible exact op17 hsz1 hsz2 hh | omega)
  · show StepsV J _ (x.post svs.length ++ y.post (svs.length + x.size) ++ [.app _ _])
    rw [List.append_assoc]
    have e0 : (svs ++ new1).length = svs.length + x.size := by rw [List.length_append, hn1]
    rw [e0] at hs2
    refine StepsV.app (hs1.mono i1.mem) (StepsV.app (hs2.mono i2.mem) (StepsV.one ?_))
    have e : p = (svs.length : Int) + x.size - 1 := by rw [hp, e0]; (first | with_reducible exact om216 hn | with_reducible exact om217 | with_reducible exact om223 | with_reducible exact op17 hsz1 hsz2 hh | omega)
    have e' : q = (svs.length : Int) + x.size + y.size - 1 := by rw [hq]; simp only [List.length_append, hn1, hn2]; (first | with_reducible exact om216 hn | with_reducible exact om217 | with_reducible exact om223 | with_reducible exact op17 hsz1 hsz2 hh | omega)
    rw [← e, ← e']
    exact .app2 m3 m4
end
theorem sr1 {room : Int} {N₀ : Nat} (hN : room.toNat = N₀) (h0 : 0 ≤ room) (h6 : room ≤ 6) (hr : ¬ room = 0) : (room - 1).toNat < N₀ ∧ 0 ≤ room - 1 ∧ room - 1 ≤ 6 := by (first | with_reducible exact on35 hN h0 h6 hr | omega)
theorem sr2 {room : Int} {N₀ : Nat} (hN : room.toNat = N₀) (h0 : 0 ≤ room) (h6 : room ≤ 6) (hr : ¬ room = 0) : ((room - 1).fdiv 2).toNat < N₀ ∧ 0 ≤ (room - 1).fdiv 2 ∧ (room - 1).fdiv 2 ≤ 6 := by
  rw [Int.fdiv_eq_ediv_of_nonneg _ (by decide)]; (first | with_reducible exact on34 hN h0 h6 hr | omega)
theorem sr3 {room : Int} {N₀ : Nat} (hN : room.toNat = N₀) (h0 : 0 ≤ room) (h6 : room ≤ 6) (hr : ¬ room = 0) : (room.fdiv 2).toNat < N₀ ∧ 0 ≤ room.fdiv 2 ∧ room.fdiv 2 ≤ 6 := by
  rw [Int.fdiv_eq_ediv_of_nonneg _ (by decide)]; (first | with_reducible exact om237 hN h0 h6 hr | omega)
theorem sr4 {room : Int} {N₀ : Nat} (hN : room.toNat = N₀) (h0 : 0 ≤ room) (hr : ¬ room = 0) {n z b : Nat} (hn : n + 2 * N₀ ≤ b) (hs : (z : Int) ≤ 2 * (room - 1).fdiv 2 + 1) : n + z + 2 * (room.fdiv 2).toNat ≤ b := by
  rw [Int.fdiv_eq_ediv_of_nonneg _ (by decide)] at hs ⊢; (first | with_reducible exact om228 hN h0 hn hs | omega)
theorem sr5 {n b N₀ : Nat} {r : Int} (hn : n + 2 * N₀ ≤ b) (q : r.toNat < N₀) : n + 2 * r.toNat ≤ b := by (first | with_reducible exact om234 hn q | omega)
theorem roomB {dp N₀ : Nat} {r : Int} (h : dp + (N₀ + 4) < recursionLimit) (q : r.toNat < N₀) : dp + 1 + (r.toNat + 4) < recursionLimit := by (first | with_reducible exact om219 h q | omega)
theorem unitsB {un N₀ : Nat} {r : Int} (h : un + 8 * (N₀ + 4) < cLine) (q : r.toNat < N₀) : un + 3 + 8 * (r.toNat + 4) < cLine := by (first | with_reducible exact om218 h q | omega)
end Mine
theorem Mine.wd92 : True := by
  (k_with "hdx" => exact Mine.roomB (by assumption) (And.left (by assumption)))
  (k_with "hux" => exact Mine.unitsB (by assumption) (And.left (by assumption)))
  trivial
namespace Mine
open PySem PySem.Calls PyProof.Rows PySem.Spec
theorem stN1 {n N z : Nat} {r : Int} (hn : n + 2 * N ≤ 9000) (hz : (z : Int) ≤ 2 * r + 1) (q : r.toNat < N) : n + z < 80000 := by (first | with_reducible exact om235 hn hz q | omega)
theorem stN2 {n N z y : Nat} {r r' : Int} (hn : n + 2 * N ≤ 9000) (hz : (z : Int) ≤ 2 * r + 1) (q : r.toNat < N) (hy : (y : Int) ≤ 2 * r' + 1) (q' : r'.toNat < N) : n + z + y < 80000 := by (first | with_reducible exact om224 hn hz q hy q' | omega)
theorem stL1 {a b N z : Nat} {r : Int} (hn : a + 2 * N ≤ 1000) (e : b = z) (hz : (z : Int) ≤ 2 * r + 1) (q : r.toNat < N) : a + b < 1000000 := by (first | with_reducible exact om230 hn e hz q | omega)
theorem stL2 {a b c N z y : Nat} {r r' : Int} (hn : a + 2 * N ≤ 1000) (e : b = z) (hz : (z : Int) ≤ 2 * r + 1) (q : r.toNat < N) (e' : c = y) (hy : (y : Int) ≤ 2 * r' + 1) (q' : r'.toNat < N) : a + (b + c) < 1000000 := by (first | with_reducible exact om232 hn e hz q e' hy q' | omega)
theorem stL0 {a N : Nat} (hn : a + 2 * N ≤ 1000) : a < 1000000 := by (first | with_reducible exact om222 hn | omega)
theorem stR {dp N : Nat} (h : dp + (N + 4) < recursionLimit) : dp < recursionLimit := by (first | with_reducible exact om236 h | omega)
theorem stH {n N : Nat} (hn : n + 2 * N ≤ 9000) : n < 10000 := by (first | with_reducible exact om226 hn | omega)
def CutMe : Prop := True
theorem itT {A B : Prop} (h : A) : if true = true then A else B := by rw [if_pos rfl]; exact h
theorem itF {A B : Prop} (h : B) : if false = true then A else B := by rw [if_neg Bool.false_ne_true]; exact h
/-- the condition by itself: its end is a variable; what it leaves is said once -/
theorem cutS {M : Model} {A : Around} {E : Value → Shared → Prop} {s : Shared} {u : Sem Bool} {Q : Bool → Shared → Prop} {h₀ : Heap} {L : Addr} {m : Str → Option Value} {led P R : Led} {pl sl : Addr} (room : Int) (F : Fr h₀ L s.heap m) (N : News h₀ L s.heap led) (d : Dm led) (r : Rot P led R) (hP : PoolAt pl sl P)
    (h1 : ∀ K : Bool → Shared → Prop, (∀ b h' tk' P', Fr h₀ L h' m → News h₀ L h' (R ++ P') → Dm (R ++ P') → PoolAt pl sl P' → (b = false → room ≠ 0) → K b { s with heap := h', toks := tk' }) → wpAny M A u K E s)
    (h2 : ∀ b h' tk' P', Fr h₀ L h' m → News h₀ L h' (R ++ P') → Dm (R ++ P') → PoolAt pl sl P' → (b = false → room ≠ 0) → Q b { s with heap := h', toks := tk' }) : wpAny M A u Q E s := h1 Q h2
theorem outC {s : Shared} {K : Bool → Shared → Prop} {h₀ h' : Heap} {L : Addr} {m : Str → Option Value} {led P' R : Led} {pl sl : Addr} {room : Int} {b : Bool} {tk' : Nat} (hK : ∀ b h' tk' P', Fr h₀ L h' m → News h₀ L h' (R ++ P') → Dm (R ++ P') → PoolAt pl sl P' → (b = false → room ≠ 0) → K b { s with heap := h', toks := tk' })
    (F : Fr h₀ L h' m) (N : News h₀ L h' led) (d : Dm led) (r : Rot P' led R) (hP : PoolAt pl sl P') (hb : b = false → room ≠ 0) : K b { s with heap := h', toks := tk' } :=
  hK _ _ _ _ F (News.perm (r.perm.trans List.perm_append_comm) N) (Dm.perm (r.perm.trans List.perm_append_comm) d) hP hb
theorem Mine.wd94 : True := by
  (k_with "W subscriptTail Name UnaryOp ref int" => (k_here; (with_reducible show wpAny _ _ (subscriptTail _ _ (Value.ref _) (Value.int _ _)) _ _ _); k_dflt (refine' Mine.item_last ?NW94 ?hW94 ?_ ?sW94; (case NW94 => k_asm); (case hW94 => k_mem); (case sW94 => with_unfolding_all rfl); k_whole)))
  trivial
theorem steps_tells {w : World} {pl sl sy st : Addr} : ∀ (N₀ : Nat) {room : Int} {σ : Sy} {P S R : Led} {n k : Nat} {svs : List Value} {t : Tok}, room.toNat = N₀ → 0 ≤ room → room ≤ 6 → PoolAt pl sl P → SymAt w sy σ S → σ.Dot → σ.Small n → n + 2 * N₀ ≤ 9000 → svs.length + 2 * N₀ ≤ 1000 →
    Tells w 813 [.ref pl, .ref sy, .int room t, .ref st] (N₀ + 4) (P ++ (S ++ ([(st, listOf svs.toArray k)] ++ R))) (StepsRet w pl sl sy st σ n room svs R) NoErr := by
  refine hidE ?_; simp (disch := k_dflt (
    refine hidW ?_
    intro N₀
    induction N₀ using Nat.strongRecOn with
    | ind N₀ ih =>
    intro room σ P S R n k svs t hN h0 h6 hP hS hd0 hz hn hsl
    intro dp un gd cn cs L a ccd cl outer A₀ base h₀ p loose mean mg mb m s Q E B F X N T hk dm hd hu hret hthr
    dsimp only [List.cons_append, List.nil_append] at N dm
    have hn9 : n < 10000 := stH hn
    rename Option (List Code) => gd69Z; (k_with "ar2" => guard_hyp gd69Z; first | with_reducible exact om221 hsl q2.2.2 q3.2.2 (by assumption) (by assumption) (by assumption) (by assumption) | with_reducible exact om229 h6 hsl hsz9 hnl9 | with_reducible exact om233 hsl q2.2.2 hsz9 hnl9 | with_reducible exact om222 hsl | with_reducible exact op2 hr2)
    k_with "mine call" => guard_hyp gd69Z; first
      | k_dflt (refine' go1n (e := draw_R_pt) (draw_tells (by assumption) (by decide) (by decide)) ?B395 ?F395 ?X395 ?N395 ?T395 ?hk395 ?d395 ?r395 ?hd395 ?hu395 ?_; (case B395 => k_asm); (case F395 => k_asm); (case X395 => k_asm); (case N395 => k_asm); (case T395 => k_asm); (case hk395 => first | exact rfl | assumption); (case d395 => walk_at "dmx"); (case r395 => walk_at "rot"); (case hd395 => walk_at "hdx"); (case hu395 => walk_at "hux"); intro P9 r9' u9 hP9 hr1 hr2 h9 tk9 F9 N9 D9; replace N9 := News.perm List.perm_append_comm N9; replace D9 := Dm.perm List.perm_append_comm D9; (try simp only [List.cons_append, List.nil_append, List.append_nil, List.append_assoc] at N9 D9); (try k_sweep); (try dsimp only))
      | k_dflt (refine' go2n (e := leaf_R_pt) (leaf_tells (by assumption) (by assumption) (by assumption) (by assumption) hn9) ?B397 ?F397 ?X397 ?N397 ?T397 ?hk397 ?d397 ?r397 ?rr397 ?hd397 ?hu397 ?_; (case B397 => k_asm); (case F397 => k_asm); (case X397 => k_asm); (case N397 => k_asm); (case T397 => k_asm); (case hk397 => first | exact rfl | assumption); (case d397 => walk_at "dmx"); (case r397 => walk_at "rot"); (case rr397 => walk_at "rot"); (case hd397 => walk_at "hdx"); (case hu397 => walk_at "hux"); intro r9 P9 S9 σ9 J9 x9 hP9 hS9 hle9 hD9 hsm9 hJ9 hv9 hl9 h9 tk9 F9 N9 D9; replace N9 := News.perm backJ2 N9; replace D9 := Dm.perm backJ2 D9; (try simp only [List.cons_append, List.nil_append, List.append_nil, List.append_assoc] at N9 D9); (try k_sweep); (try dsimp only))
      | k_dflt (refine' go1n (e := func_R_pt) (func_tells (by assumption) ?zz) ?B399 ?F399 ?X399 ?N399 ?T399 ?hk399 ?d399 ?r399 ?hd399 ?hu399 ?_; (case B399 => k_asm); (case F399 => k_asm); (case X399 => k_asm); (case N399 => k_asm); (case T399 => k_asm); (case hk399 => first | exact rfl | assumption); (case d399 => walk_at "dmx"); (case r399 => walk_at "rot"); (case hd399 => walk_at "hdx"); (case hu399 => walk_at "hux"); (case zz => first | exact Sy.Small.mono (by assumption) (Nat.le_of_lt (stN2 hn (by assumption) (by first | exact q1.1 | exact q2.1 | exact q3.1) (by assumption) (by first | exact q1.1 | exact q2.1 | exact q3.1))) | exact Sy.Small.mono (by assumption) (Nat.le_of_lt (stN1 hn (by assumption) (by first | exact q1.1 | exact q2.1 | exact q3.1)))); intro S9 u9 hS9 h9 tk9 F9 N9 D9; replace N9 := News.perm List.perm_append_comm N9; replace D9 := Dm.perm List.perm_append_comm D9; (try simp only [List.cons_append, List.nil_append, List.append_nil, List.append_assoc] at N9 D9); (try k_sweep); (try dsimp only))
      | k_dflt (refine' go3n (e := ptId) (ih _ ?lt (room := _) rfl ?g0 ?g6 (by assumption) (by assumption) (by assumption) (by assumption) ?gn ?gs) ?B401 ?F401 ?X401 ?N401 ?T401 ?hk401 ?d401 ?r401 ?rr401 ?rrr401 ?hd401 ?hu401 ?_; (case B401 => k_asm); (case F401 => k_asm); (case X401 => k_asm); (case N401 => k_asm); (case T401 => k_asm); (case hk401 => first | exact rfl | assumption); (case d401 => walk_at "dmx"); (case r401 => walk_at "rot"); (case rr401 => walk_at "rot"); (case rrr401 => walk_at "rot"); (case hd401 => walk_at "hdx"); (case hu401 => walk_at "hux"); (case lt => first | exact q1.1 | exact q2.1 | exact q3.1); (case g0 => first | exact q1.2.1 | exact q2.2.1 | exact q3.2.1); (case g6 => first | exact q1.2.2 | exact q2.2.2 | exact q3.2.2); (case gn => first | exact sr5 hn q1.1 | exact sr5 hn q2.1 | exact sr4 hN h0 hr0 hn hsz9); (case gs => first | exact sr5 hsl q1.1 | exact sr5 hsl q2.1 | (rw [List.length_append, hnl9]; exact sr4 hN h0 hr0 hsl hsz9)); intro r9 led9 hR9 h9 tk9 F9 N9 D9; (refine Gen fun gG9 gK9 => ?_; obtain ⟨P9, S9, σ9, J9, x9, new9, k9, hP9, hS9, hle9, hD9, hsm9, hsz9, hg9, hv9, hst9, e9⟩ := hR9; subst e9; refine gK9 ?_; clear gK9 gG9); refine sym_inst hS9 ?_; intro _ _ _ _ _ _ _ _ _ _ _ _ _ hi1 hi2; have hnl9 := hst9.1; rw [Tm.post_length] at hnl9; replace N9 := News.perm backX3 N9; replace D9 := Dm.perm backX3 D9; (try simp only [List.cons_append, List.nil_append, List.append_nil, List.append_assoc] at N9 D9); (try k_sweep); (try dsimp only))
    refine sym_inst hS ?_; intro _ _ _ _ _ _ _ _ _ _ _ _ _ hi1 hi2
    have cm9 : CutMe := trivial
    k_with "isTrue BoolOp" => guard_hyp gd69Z; (with_reducible rename CutMe => cm8; clear cm8; k_dflt (refine' cutS (P := P) room ?F77 ?N77 ?d77 ?r77 hP (fun K hK => ?_) (fun b9 h9 tk9 P9 F9 N9 D9 hP9 hb9 => ?_)); (case F77 => k_asm); (case N77 => k_asm); (case d77 => first | with_reducible assumption | walk_at "dm"); (case r77 => walk_at "rot"); rotate_left; ((cases b9); rotate_left; (refine itT ?_; clear hP; (try k_sweep)); rotate_right; (refine itF ?_; have hr0 : ¬ room = 0 := hb9 rfl; have q1 := sr1 hN h0 h6 hr0; have q2 := sr2 hN h0 h6 hr0; have q3 := sr3 hN h0 h6 hr0; clear hP; (try k_sweep))))
    (revert X; k_fill; intro X; refine wpAny_call ?_; k_dflt ktr_enter; walk_at "loc"; refine genT ?_; intro tk9)
    walk_at "st9"
    · refine' out3R (P := P9) (P2 := S9) (P3 := [(st, _)]) (R := R) hret ?F404 ?N404 ?D404 ?r404 ?rr404 ?rrr404 ?rrrr404 ?P; (case F404 => k_asm); (case N404 => k_asm); (case D404 => walk_at "dm"); (case r404 => walk_at "rot"); (case rr404 => walk_at "rot"); (case rrr404 => walk_at "rot"); (case rrrr404 => walk_at "rot"); (case P => exact StepsRet.one (by assumption) (by assumption) (.head _) (.tail _ (.head _)) (.tail _ (.tail _ (.head _))) (by k_mem) (by assumption) (by walk_at "inc") (by assumption) (by assumption) (by assumption) (by assumption) (by assumption) (by assumption) (by assumption) (by assumption) rfl rfl (stN1 hn (by assumption) (by first | exact q1.1 | exact q2.1 | exact q3.1)))
    · refine' out3R (P := P9) (P2 := S9) (P3 := [(st, _)]) (R := R) hret ?F405 ?N405 ?D405 ?r405 ?rr405 ?rrr405 ?rrrr405 ?P; (case F405 => k_asm); (case N405 => k_asm); (case D405 => walk_at "dm"); (case r405 => walk_at "rot"); (case rr405 => walk_at "rot"); (case rrr405 => walk_at "rot"); (case rrrr405 => walk_at "rot"); (case P => exact StepsRet.two (by assumption) (by assumption) (.head _) (.tail _ (.head _)) (.tail _ (.tail _ (.head _))) (by k_mem) (by assumption) (by assumption) (by walk_at "inc") (by walk_at "inc") (by assumption) (by assumption) (by assumption) (by assumption) (by assumption) (by assumption) (by assumption) (by assumption) (getD_mem (by assumption)) (by assumption) (by assumption) (by assumption) (by assumption) rfl rfl rfl (stN2 hn (by assumption) (by first | exact q1.1 | exact q2.1 | exact q3.1) (by assumption) (by first | exact q1.1 | exact q2.1 | exact q3.1)))
    · refine' out3R (P := P9) (P2 := S9) (P3 := [(st, _)]) (R := R) hret ?F406 ?N406 ?D406 ?r406 ?rr406 ?rrr406 ?rrrr406 ?P; (case F406 => k_asm); (case N406 => k_asm); (case D406 => walk_at "dm"); (case r406 => walk_at "rot"); (case rr406 => walk_at "rot"); (case rrr406 => walk_at "rot"); (case rrrr406 => walk_at "rot"); (case P => exact StepsRet.leaf (by assumption) (by assumption) (by assumption) (by assumption) (by assumption) h0 (by assumption) (by assumption))
    all_goals (refine' outC hK ?Fc ?Nc ?dc ?rc ?Pc ?bc; (case Fc => k_asm); (case Nc => k_asm); (case dc => first | with_reducible assumption | walk_at "dm"); (case rc => walk_at "rot"); (case Pc => assumption); (case bc => first | exact fun h => Bool.noConfusion h | exact fun _ => by assumption)))) only [↓hidL]
end Mine
namespace Mine
open PySem PySem.Calls PyProof.Rows PySem.Spec
theorem Tells.deep {w : World} {f : Addr} {args : List Value} {D D' : Nat} {led : Led} {Ret : Value → Led → Prop} {Err : Addr → Led → Prop} (h : Tells w f args D led Ret Err) (l : D ≤ D') : Tells w f args D' led Ret Err :=
  fun dp un gd cn cs L a ccd cl outer A₀ base h₀ p loose mean mg mb m s Q E B F X N T hk d hd hu ret thr => h dp un gd cn cs L a ccd cl outer A₀ base h₀ p loose mean mg mb m s Q E B F X N T hk d (by (first | with_reducible exact om270 l hd | with_reducible exact om272 l hu | omega)) (by (first | with_reducible exact om270 l hd | with_reducible exact om272 l hu | omega)) ret thr
theorem put_tells {w : World} {st sy ta : Addr} {es : List DictEntry} {nt : Nat} {hp : List (Int × Int)} {σ : Sy} {S J H R : Led} {v : Value} {x : Tm} (hH : StoreAt st sy hp J H) (hS : SymAt w sy σ S) (hz : hp.length + 3 * x.size < 80000) (hg : x.Good σ) (hv : TmV J v x) (hlo : (ta == sysModules) = false) (hto : (dictOf es nt).IsDictOf (PySem.intKind PG w) []) :
    Tells w 406 [.ref st, v, .ref ta] 5 (H ++ (S ++ (J ++ ([(ta, dictOf es nt)] ++ R)))) (PutRet w st sy hp S J R x) NoErr := by
  have hz' : hp.length < 80000 := by (first | with_reducible exact om271 hz | omega)
  rcases tm_cases x with rfl | ⟨n, rfl⟩ | ⟨i, rfl⟩ | ⟨f, ts, hs⟩
  · exact (putvar_tells (i := 0) hH hz' hv hlo hto).deep (by (first | with_reducible exact om271 hz | omega))
  · exact (putat_tells hH hz' hv hlo hto).deep (by (first | with_reducible exact om271 hz | omega))
  · exact (putnum_tells hH hz' hv hlo hto).deep (by (first | with_reducible exact om271 hz | omega))
  · exact putstr_tells hH hS hz hg hs hv hlo hto
inductive mput_R (w : World) (st sy : Addr) (hp : List (Int × Int)) (M S J R : Led) (x : Tm) (r : Value) (led' : Led) : Prop
  | mk : ∀ led9, PutRet w st sy hp S J R x r led9 → led' = M ++ led9 → mput_R w st sy hp M S J R x r led'
def mput_R_T (w : World) (st sy : Addr) (hp : List (Int × Int)) (M S J R : Led) (x : Tm) (K7 : Value → Led → Prop) : Prop := ∀ (r : Value), ∀ led9, PutRet w st sy hp S J R x r led9 → K7 (r) (M ++ led9)
theorem mput_R_pt {w : World} {st sy : Addr} {hp : List (Int × Int)} {M S J R : Led} {x : Tm} (K7 : Value → Led → Prop) (k7 : mput_R_T w st sy hp M S J R x K7) (r : Value) (led' : Led) (h7 : mput_R w st sy hp M S J R x r led') : K7 r led' := by
  obtain ⟨_, a0, a1⟩ := h7
  subst a1
  exact k7 _ _ a0
theorem mput_tells {w : World} {ma st sy : Addr} {mx : Int} {xs : List Value} {hp : List (Int × Int)} {σ : Sy} {M S J H R : Led} {v : Value} {x : Tm} (hM : MAt ma st sy mx xs M) (hH : StoreAt st sy hp J H) (hS : SymAt w sy σ S) (hz : hp.length + 3 * x.size < 80000) (hg : x.Good σ) (hv : TmV J v x) :
    Tells w 694 [.ref ma, v] 7 (M ++ (H ++ (S ++ (J ++ R)))) (mput_R w st sy hp M S J R x) NoErr := by
  refine hidE ?_; simp (disch := k_dflt (
    refine hidW ?_
    intro dp un gd cn cs L a ccd cl outer A₀ base h₀ p loose mean mg mb m s Q E B F X N T hk dm hd hu hret hthr
    refine m_inst hM ?_; intro dma xl cd rt bg hs ks ws u0 n0 hm1 hm2 hm3
    refine store_inst hH ?_; intro dst hl stk trl h1' h2 h3 h4 h5 h6 h7 k1 k2 k3 k4 k5 k6 k7 u1 u2 u3 vs n1 hI1 hI2 hI3 hV
    rename Option (List Code) => gd70Z
    k_with "mine call" => guard_hyp gd70Z; (refine Hold.of ?_)
    (revert X; k_fill; intro X; refine wpAny_call ?_; k_dflt ktr_enter; walk_at "loc"; refine genT ?_; intro tk9)
    walk_at "st9"
    refine Hold.mk ?_
    (rename Obj.IsDictOf (PySem.intKind _ _) _ _ => hdI)
    (refine Gen fun gG9 gK9 => ?_; obtain ⟨esI, nI, rfl⟩ := dict_form hdI; refine gK9 ?_; clear gK9 gG9)
    k_dflt (refine' go4n (e := PutRet_pt) (P4 := [(_, dictOf esI nI)]) (put_tells hH hS hz hg hv (by assumption) hdI) ?B409 ?F409 ?X409 ?N409 ?T409 ?hk409 ?d409 ?r409 ?rr409 ?rrr409 ?rrrr409 ?hd409 ?hu409 ?_; (case B409 => k_asm); (case F409 => k_asm); (case X409 => k_asm); (case N409 => k_asm); (case T409 => k_asm); (case hk409 => first | exact rfl | assumption); (case d409 => walk_at "dmx"); (case r409 => walk_at "rot"); (case rr409 => walk_at "rot"); (case rrr409 => walk_at "rot"); (case rrrr409 => walk_at "rot"); (case hd409 => walk_at "hdx"); (case hu409 => walk_at "hux"))
    intro Jn H' c ct as ext hJn hcc hHn hL hnd hlen h9 tk9 F9 N9 D9
    (try dsimp only [List.cons_append, List.nil_append] at N9 D9)
    k_sweep
    (try dsimp only)
    walk_at "st9"
    (refine' outP (G := _) hret ?F8 ?N8 ?D8 ?p8 ?R8; (case F8 => k_asm); (case N8 => k_asm); (case D8 => walk_at "dm"); (case p8 => (refine' rots5G (P := M) (P2 := H') (P3 := S) (P4 := Jn ++ J) (R := R) ?ra ?rb ?rc ?rd ?re; (case ra => walk_at "rot"); (case rb => walk_at "rot"); (case rc => walk_at "rot"); (case rd => walk_at "rot"); (case re => walk_at "rot"))); (case R8 => exact ⟨_, ⟨Jn, H', c, ct, as, ext, hJn, rfl, hcc, hHn, hL, hnd, hlen, rfl⟩, rfl⟩)))) only [↓hidL]
end Mine
namespace Mine
open PySem PySem.Calls PyProof.Rows PySem.Spec
theorem dm3 {a b c : Addr} {x y z : Obj} (h1 : c < b) (h2 : b < a ∧ c < a) : Dm [(a, x), (b, y), (c, z)] := by
  refine .cons (fun p hp => ?_) (.cons (fun p hp => ?_) (.cons (fun p hp => (nomatch hp)) .nil))
  · rcases List.mem_cons.mp hp with rfl | hp
    · exact .inr (.inr (Nat.ne_of_gt h2.1))
    · rw [List.mem_singleton.mp hp]; exact .inr (.inr (Nat.ne_of_gt h2.2))
  · rw [List.mem_singleton.mp hp]; exact .inr (.inr (Nat.ne_of_gt h1))
theorem law_start {h₀ h : Heap} {L pl sl c : Addr} {o : Obj} {t1 t2 t3 : Tok} {n n2 : Nat} {vs : List Value} {ns : List Int} {S J : Led} (N : News h₀ L h (S ++ (J ++ [(pl, listOf #[.ref sl, .int 0 t1, .int (-1) t2, .int 0 t3] n), (sl, listOf vs.toArray n2), (c, o)])))
    (D : Dm (S ++ (J ++ [(pl, listOf #[.ref sl, .int 0 t1, .int (-1) t2, .int 0 t3] n), (sl, listOf vs.toArray n2), (c, o)]))) (hI : IntsAre vs (List.take 63 ns)) : ∃ P, PoolAt pl sl P ∧ News h₀ L h (S ++ (J ++ (P ++ [(c, o)]))) ∧ Dm (S ++ (J ++ (P ++ [(c, o)]))) :=
  ⟨_, ⟨0, -1, 0, t1, t2, t3, n, n2, vs, _, rfl, by decide, hI, by rw [hI.length]; exact List.length_take_le _ _⟩, N, D⟩
section
variable {w : World} {A₀ : Around} {E : Value → Shared → Prop} {s' : Shared} {h₀ h : Heap} {outer : List Env} {L a e dx : Addr} {m : Str → Option Value} {name : Str} {scope : Scope} {cd : Value} {cl : List (Str × Addr)}
  {n : Str} {b₀ : Stmt} {suite : List Stmt} {pos np : Pos} {rest : List ExceptHandler} {Q : Flow → Shared → Prop} {led : Led} {p : Program} {loose : List Str} {mean : ExcName → Option Value} {mg mb : Str → Option Value}
theorem caught_peX (K : Below A₀ h₀ outer h₀) (F : Fr h₀ L h m) (hsm : h.UpToSlots s'.heap) (R : Rz h₀ (envX name scope L a cd cl :: outer) e dx led s'.heap) (X : (mk.heap_1 w.params).In h₀) (T : TopRead p loose mg mb h₀)
    (k : ∀ h' oe tk, Fr h₀ L h' (fun y => if y = n then some (.ref e) else m y) → News h₀ L h' ((e, oe) :: led) → oe.cls = .ref 51 → oe.dict = some dx → (∃ vs, oe.data = .fields vs) →
      wpAny (model PySem.Challenge.rw_sa0166_01.row.prog w) ((A₀.deeper (envX name scope L a cd cl)).mark (some (.ref e))) (execs (b₀ :: suite) (envX name scope L a cd cl))
        (fun f s₄ => wpAny (model PySem.Challenge.rw_sa0166_01.row.prog w) (A₀.deeper (envX name scope L a cd cl)) (do bindName (envX name scope L a cd cl) n .none; unbindBehindTheSuite (envX name scope L a cd cl) n pos) (fun _ s₅ => Q f s₅) E s₄)
        (AsSuiteRaised (model PySem.Challenge.rw_sa0166_01.row.prog w) ((A₀.deeper (envX name scope L a cd cl)).mark (some (.ref e))) (envX name scope L a cd cl) n pos (notedBy (model PySem.Challenge.rw_sa0166_01.row.prog w) ((A₀.deeper (envX name scope L a cd cl)).mark (some (.ref e))) (envX name scope L a cd cl) (cameBackBy (model PySem.Challenge.rw_sa0166_01.row.prog w) (A₀.deeper (envX name scope L a cd cl)) (envX name scope L a cd cl) E)))
        { s' with heap := h', toks := tk })
    (hk : scope.kind = .function := by rfl) (hlo : (envX name scope L a cd cl).kindOf n = some .local := by rfl) (hx : (envX name scope L a cd cl).kindOf "PrologError" = some .globalImplicit := by rfl) :
    wpAny (model PySem.Challenge.rw_sa0166_01.row.prog w) (A₀.deeper (envX name scope L a cd cl)) (noteFrame (.ref e) (envX name scope L a cd cl))
      (fun _ s₂ => wpAny (model PySem.Challenge.rw_sa0166_01.row.prog w) (A₀.deeper (envX name scope L a cd cl)) (setFlight (.ref e) none) (fun _ s₃ =>
        wpAny (model PySem.Challenge.rw_sa0166_01.row.prog w) (A₀.deeper (envX name scope L a cd cl)) (handleBy (.ref e) (envX name scope L a cd cl) (.ExceptHandler (some (.Name "PrologError" np)) (some n) (b₀ :: suite) pos :: rest)) Q E s₃) E s₂) E s' := by
  obtain ⟨B, hB, hl, hst, hen, hfr, hfl⟩ := R
  have hL : B.get? L = none := by
    obtain ⟨_, ⟨L', _, hf, hn', _⟩, _⟩ := hfr
    obtain rfl : L = L' := Option.some.inj hf
    exact hn'
  refine pe_note2 (Around.frames_deeper K.stack) hfr rfl hfl hst hen fun h1 a1 a2 a3 a4 => ?_
  refine pe_land a2 a1 a3 fun h2 b1 b2 b3 b4 => ?_
  have st2 : h₀.StaysIn h2 := fun b o q => b1 b o (hB b o q)
  have F2 := F.of_stays st2 (hsm.trans (a4.trans b4))
  obtain ⟨bm, N, nm, q, bs, hdct, sn, sub, ab, col, dd, k0, k1, k2, k3, k5, hC, TL⟩ := pe_cls (X.keeps st2)
  obtain ⟨ob, vs, T1, oT, ts, he, ⟨hobc, hobd⟩, r⟩ := id b3
  refine wpAny_handleBy_cons (codeAny_handlers_test (nameX_K F2 X T (pe_name w) ?_ hk hx (by decide))) (by intro q; cases q)
  refine wpAny_excMatches_sub_self hC he hobc (TL.hasType (b := true) (by decide)) (codeAny_handlers_suite_as ?_)
  refine pe_land b2 b1 b3 fun h3 c1 c2 c3 c4 => ?_
  obtain ⟨oe, ws, T3, oT3, ts3, he3, ⟨hoc, hod⟩, hdat, _⟩ := c3
  have st3 : h₀.StaysIn h3 := fun b o q => c1 b o (hB b o q)
  have F3 := F.of_stays st3 ((hsm.trans (a4.trans b4)).trans c4)
  have hLe : e ≠ L := by
    intro z
    obtain ⟨o, es, ep, ho, hd, _⟩ := F3.ns
    rw [← z, he3] at ho
    cases ho
    rw [hdat] at hd; cases hd
  have N3 : News h₀ L h3 ((e, oe) :: led) := fun q hq => by
    rcases List.mem_cons.mp hq with rfl | hq
    · exact ⟨he3, hLe, fresh_of_stays hB hen⟩
    · exact ⟨c1 _ _ (hl q hq).1, (fun z => by have := (hl q hq).1; rw [z, hL] at this; cases this), (hl q hq).2⟩
  refine storeX_L F3 (news := _) N3 (fun h4 F4 N4 => ?_) hk hlo
  exact k h4 oe _ F4 N4 hoc hod ⟨_, hdat⟩
end
theorem tm_ref {A : Around} {s : Shared} {a b : Addr} (h : a ≠ b → PySem.SeqAt.RcAt A s (.ref a) (.ref b) true) : PySem.SeqAt.EqAt A s (.ref a) (.ref b) true := by
  by_cases e : a = b
  · subst e; exact PySem.SeqAt.EqAt.same _
  · exact PySem.SeqAt.EqAt.of_refs e (h e)
theorem tup_eq {h₀ : Heap} {L : Addr} {led : Led} {A : Around} {s : Shared} {a b : Addr} {vs us : List Value} {k k' : Nat} (N : News h₀ L s.heap led) (h1 : (a, tupO vs k) ∈ led) (h2 : (b, tupO us k') ∈ led) (hu : A.units < cLine) (hl : vs.length = us.length)
    (he : ∀ (j : Nat) v u, vs[j]? = some v → us[j]? = some u → PySem.SeqAt.EqAt A.in1 s v u true) : PySem.SeqAt.RcAt A s (.ref a) (.ref b) true := by
  have q1 : s.heap.IsTuple a vs.toArray := ⟨_, (N _ h1).1, rfl, k, rfl⟩
  have q2 : s.heap.IsTuple b us.toArray := ⟨_, (N _ h2).1, rfl, k', rfl⟩
  have h := PySem.SeqAt.RcAt.tuples (e := fun _ => true) q1 q2 hu (fun j h1 h2 => he j _ _ (by simp at h1; simp [h1]) (by simp at h2; simp [h2]))
  have e : ((List.range (min vs.toArray.size us.toArray.size)).all (fun _ => true) && vs.toArray.size == us.toArray.size) = true := by simp [hl]
  rw [e] at h; exact h
noncomputable def Tm.dep : Tm → Nat
  | .s1 _ a => a.dep + 2
  | .s2 _ a b => max a.dep b.dep + 2
  | _ => 1
theorem entN {α β : Type} {P : α → β → Prop} (j : Nat) (v : α) (u : β) (h : ([] : List α)[j]? = some v) (_ : ([] : List β)[j]? = some u) : P v u := absurd h (by simp)
theorem entC {α β : Type} {P : α → β → Prop} {a : α} {b : β} {l : List α} {r : List β} (h0 : P a b) (ht : ∀ (j : Nat) v u, l[j]? = some v → r[j]? = some u → P v u) (j : Nat) (v : α) (u : β) (h : (a :: l)[j]? = some v) (k : (b :: r)[j]? = some u) : P v u := by
  rcases j with _ | j
  · obtain rfl : a = v := Option.some.inj h
    obtain rfl : b = u := Option.some.inj k
    exact h0
  · exact ht j v u h k
theorem eqS {A : Around} {s : Shared} (x : Str) (t t' : Tok) : PySem.SeqAt.EqAt A s (.str x t) (.str x t') true := by simpa using PySem.SeqAt.EqAt.str_str (A := A) (s := s) x t x t'
theorem eqI {A : Around} {s : Shared} (x : Int) (t t' : Tok) : PySem.SeqAt.EqAt A s (.int x t) (.int x t') true := by simpa using PySem.SeqAt.EqAt.int_int (A := A) (s := s) x t x t'
theorem dpA {u d : Nat} (h : u + (d + 2) < cLine) : u < cLine ∧ u + 1 < cLine ∧ u + 1 + 1 + d < cLine := ⟨by (first | with_reducible exact om160 h | with_reducible exact om161 h | with_reducible exact om163 h | omega), by (first | with_reducible exact om160 h | with_reducible exact om161 h | with_reducible exact om163 h | omega), by (first | with_reducible exact om160 h | with_reducible exact om161 h | with_reducible exact om163 h | omega)⟩
theorem dpM {u x y : Nat} (h : u + (max x y + 2) < cLine) : u < cLine ∧ u + 1 < cLine ∧ u + 1 + 1 + x < cLine ∧ u + 1 + 1 + y < cLine := ⟨by (first | with_reducible exact om156 h | with_reducible exact om157 h | with_reducible exact om158 h | with_reducible exact om159 h | omega), by (first | with_reducible exact om156 h | with_reducible exact om157 h | with_reducible exact om158 h | with_reducible exact om159 h | omega), by (first | with_reducible exact om156 h | with_reducible exact om157 h | with_reducible exact om158 h | with_reducible exact om159 h | omega), by (first | with_reducible exact om156 h | with_reducible exact om157 h | with_reducible exact om158 h | with_reducible exact om159 h | omega)⟩
theorem dp1 {u : Nat} (h : u + 1 < cLine) : u < cLine := by (first | with_reducible exact om162 h | omega)
theorem rc_ref {A : Around} {s : Shared} {v u : Value} (h : ∃ a b, v = .ref a ∧ u = .ref b ∧ PySem.SeqAt.RcAt A s (.ref a) (.ref b) true) : PySem.SeqAt.EqAt A s v u true := by
  obtain ⟨a, b, rfl, rfl, r⟩ := h
  exact tm_ref fun _ => r
theorem tm_rc {h₀ : Heap} {L : Addr} {led : Led} {s : Shared} (N : News h₀ L s.heap led) : ∀ (t : Tm) {v u : Value} {A : Around}, TmV led v t → TmV led u t → A.units + t.dep < cLine → ∃ a b, v = .ref a ∧ u = .ref b ∧ PySem.SeqAt.RcAt A s (.ref a) (.ref b) true := by
  intro t
  induction t with
  | «at» n =>
    intro v u A h h' hu
    refine h.fn _ fun _ _ _ _ e m => ?_
    refine h'.fn _ fun _ _ _ _ e' m' => ?_
    exact ⟨_, _, e, e', tup_eq N m m' (dp1 hu) rfl (entC (eqS _ _ _) (entC (eqI _ _ _) entN))⟩
  | var =>
    intro v u A h h' hu
    refine h.fn _ fun _ _ _ _ e m => ?_
    refine h'.fn _ fun _ _ _ _ e' m' => ?_
    exact ⟨_, _, e, e', tup_eq N m m' (dp1 hu) rfl (entC (eqS _ _ _) (entC (eqI _ _ _) entN))⟩
  | num n =>
    intro v u A h h' hu
    refine h.fn _ fun _ _ _ _ e m => ?_
    refine h'.fn _ fun _ _ _ _ e' m' => ?_
    exact ⟨_, _, e, e', tup_eq N m m' (dp1 hu) rfl (entC (eqS _ _ _) (entC (eqI _ _ _) entN))⟩
  | s1 f x ih =>
    intro v u A h h' hu
    refine h.fn _ fun _ _ _ _ _ _ _ e m1 m2 hx => ?_
    refine h'.fn _ fun _ _ _ _ _ _ _ e' m1' m2' hx' => ?_
    exact ⟨_, _, e, e', tup_eq N m1 m1' (dpA hu).1 rfl (entC (eqS _ _ _) (entC (eqI _ _ _) (entC (tm_ref fun _ => tup_eq N m2 m2' (dpA hu).2.1 rfl (entC (rc_ref (ih hx hx' (dpA hu).2.2)) entN)) entN)))⟩
  | s2 f x y ih ih2 =>
    intro v u A h h' hu
    refine h.fn _ fun _ _ _ _ _ _ _ _ e m1 m2 hx hy => ?_
    refine h'.fn _ fun _ _ _ _ _ _ _ _ e' m1' m2' hx' hy' => ?_
    exact ⟨_, _, e, e', tup_eq N m1 m1' (dpM hu).1 rfl (entC (eqS _ _ _) (entC (eqI _ _ _) (entC (tm_ref fun _ => tup_eq N m2 m2' (dpM hu).2.1 rfl (entC (rc_ref (ih hx hx' (dpM hu).2.2.1)) (entC (rc_ref (ih2 hy hy' (dpM hu).2.2.2)) entN))) entN)))⟩
section
variable {w : World} {f : Addr} {args : List Value} {kw : List (Str × Value)} {D : Nat} {Ret : Value → Led → Prop} {Err : Addr → Led → Prop}
  {dp un : Nat} {gd : Option (List Code)} {cn : Str} {cs : Scope} {L a : Addr} {ccd : Value} {cl : List (Str × Addr)} {outer : List Env} {A₀ : Around} {base h₀ : Heap} {p : Program} {loose : List Str} {mean : ExcName → Option Value}
  {mg mb : Str → Option Value} {m : Str → Option Value} {s : Shared} {Q E : Value → Shared → Prop} {led P R : Led}
theorem goK1 {T9 : (Value → Led → Prop) → Prop} (C : TellsK w f args kw D (P ++ R) Ret Err) (B : Below A₀ base outer h₀) (F : Fr h₀ L s.heap m) (X : (mk.heap_1 w.params).In h₀) (N : News h₀ L s.heap led) (T : Top p loose mean mg mb h₀) (hk : cs.kind = .function) (d : Dm led) (r : Rot P led R)
    (hd : dp + D < recursionLimit) (hu : un + 8 * D < cLine)
    (e : ∀ K : Value → Led → Prop, T9 K → ∀ r led', Ret r led' → K r led') (ret : T9 fun r led' => ∀ h' tk', Fr h₀ L h' m → News h₀ L h' led' → Dm led' → Q r { s with heap := h', toks := tk' })
    (thr : ∀ e dx led' h' tk' g, Fr h₀ L g m → g.UpToSlots h' → Rz base (envX cn cs L a ccd cl :: outer) e dx led' h' → Dm led' → Err dx led' → E (.ref e) { s with heap := h', toks := tk' }) :
    wpAny (model PySem.Challenge.rw_sa0166_01.row.prog w) (ktrTop dp un gd cn cs L a ccd cl outer) (call (.ref f) args kw) Q E s :=
  C _ _ _ _ _ _ _ _ _ _ _ _ _ _ _ _ _ _ _ _ _ _ B F X (News.perm r.perm N) T hk (Dm.perm r.perm d) hd hu (fun r led' h' tk' F N D hR => e _ ret r led' hR h' tk' F N D) thr
theorem goK1n {T9 : (Value → Led → Prop) → Prop} (C : TellsK w f args kw D (P ++ R) Ret NoErr) (B : Below A₀ base outer h₀) (F : Fr h₀ L s.heap m) (X : (mk.heap_1 w.params).In h₀) (N : News h₀ L s.heap led) (T : Top p loose mean mg mb h₀) (hk : cs.kind = .function) (d : Dm led) (r : Rot P led R)
    (hd : dp + D < recursionLimit) (hu : un + 8 * D < cLine)
    (e : ∀ K : Value → Led → Prop, T9 K → ∀ r led', Ret r led' → K r led') (ret : T9 fun r led' => ∀ h' tk', Fr h₀ L h' m → News h₀ L h' led' → Dm led' → Q r { s with heap := h', toks := tk' }) :
    wpAny (model PySem.Challenge.rw_sa0166_01.row.prog w) (ktrTop dp un gd cn cs L a ccd cl outer) (call (.ref f) args kw) Q E s :=
  goK1 C B F X N T hk d r hd hu e ret fun _ _ _ _ _ _ _ _ _ _ hE => hE.elim
end
end Mine
namespace Mine
open PySem PySem.Calls PyProof.Rows PySem.Spec
theorem Tm.size_pos : ∀ t : Tm, 1 ≤ t.size
  | .s1 _ _ => Nat.succ_pos _
  | .s2 _ _ _ => Nat.succ_pos _
  | .num _ => Nat.le_refl _
  | .at _ => Nat.le_refl _
  | .var => Nat.le_refl _
def SG (σ : Sy) (b i : Nat) : Step → Prop
  | .leaf t => t.Good σ ∧ t.size = 1
  | .app f [p] => FunOk σ f 1 uWords ∧ (b : Int) ≤ p ∧ p < (b : Int) + i
  | .app f [p, q] => FunOk σ f 2 bWords ∧ ((b : Int) ≤ p ∧ p < (b : Int) + i) ∧ ((b : Int) ≤ q ∧ q < (b : Int) + i)
  | _ => False
theorem SG.widen {σ : Sy} {b b' i i' : Nat} {s : Step} (h : SG σ b i s) (hb : b' ≤ b) (hi : b + i ≤ b' + i') : SG σ b' i' s := by
  match s, h with
  | .leaf t, h => exact h
  | .app f [p], h => exact ⟨h.1, by have := h.2.1; (first | with_reducible exact om169 hb this | with_reducible exact om172 hi this | omega), by have := h.2.2; (first | with_reducible exact om169 hb this | with_reducible exact om172 hi this | omega)⟩
  | .app f [p, q], h => exact ⟨h.1, ⟨by have := h.2.1.1; (first | with_reducible exact om169 hb this | with_reducible exact om172 hi this | omega), by have := h.2.1.2; (first | with_reducible exact om169 hb this | with_reducible exact om172 hi this | omega)⟩, ⟨by have := h.2.2.1; (first | with_reducible exact om169 hb this | with_reducible exact om172 hi this | omega), by have := h.2.2.2; (first | with_reducible exact om169 hb this | with_reducible exact om172 hi this | omega)⟩⟩
theorem pg1 {b n : Nat} (h : 1 ≤ n) : (b : Int) ≤ (b : Int) + n - 1 ∧ (b : Int) + n - 1 < (b : Int) + (n + 0 : Nat) := by (first | with_reducible exact om168 h | omega)
theorem pg2 {b n m : Nat} (h : 1 ≤ n) (k : 1 ≤ m) : ((b : Int) ≤ (b : Int) + n - 1 ∧ (b : Int) + n - 1 < (b : Int) + (n + m + 0 : Nat)) ∧ ((b : Int) ≤ (b : Int) + n + m - 1 ∧ (b : Int) + n + m - 1 < (b : Int) + (n + m + 0 : Nat)) := by (first | with_reducible exact om174 h k | omega)
theorem post_good {σ : Sy} (x : Tm) : ∀ (b i : Nat) {s : Step}, x.Good σ → (x.post b)[i]? = some s → SG σ b i s := by
  induction x with
  | num v => exact fun b i s hg h => atC (P := fun j s => SG σ b j s) (by exact ⟨hg, rfl⟩) atN i s h
  | «at» v => exact fun b i s hg h => atC (P := fun j s => SG σ b j s) (by exact ⟨hg, rfl⟩) atN i s h
  | var => exact fun b i s hg h => atC (P := fun j s => SG σ b j s) (by exact ⟨hg, rfl⟩) atN i s h
  | s1 f a ih => exact fun b i s hg h => atA (P := fun j s => SG σ b j s) (Tm.post_length a b) (fun j s h => ih b j hg.2 h) (atC (by exact ⟨hg.1, pg1 a.size_pos⟩) atN) i s h
  | s2 f x y ih ih2 => exact fun b i s hg h => atA (P := fun j s => SG σ b j s) (by rw [List.length_append, Tm.post_length, Tm.post_length]) (atA (Tm.post_length x b) (fun j s h => ih b j hg.2.1 h) fun j s h => (ih2 (b + x.size) j hg.2.2 h).widen (Nat.le_add_right _ _) (Nat.le_of_eq (Nat.add_assoc _ _ _))) (atC (by exact ⟨hg.1, pg2 x.size_pos y.size_pos⟩) atN) i s h
noncomputable def stT (vals : List Int) : Step → Tm
  | .leaf t => t
  | .app f [p] => .s1 f (.num (vals.getD p.toNat 0))
  | .app f [p, q] => .s2 f (.num (vals.getD p.toNat 0)) (.num (vals.getD q.toNat 0))
  | .app _ _ => .num 0
theorem ev_stT {σ : Sy} {mx : Int} {vals : List Int} {b i : Nat} {s : Step} (h : SG σ b i s) : evT σ mx (stT vals s) = stV σ mx vals s := by
  match s, h with
  | .leaf t, h => rfl
  | .app f [p], h => rfl
  | .app f [p, q], h => rfl
theorem size_ok2 {v mx u : Int} (h : sizeE v mx = .ok u) : u = v ∧ (Builtin.Int.intBits u : Int) ≤ mx := by
  unfold sizeE at h
  split at h
  · cases h
  · cases h; exact ⟨rfl, by (first | with_reducible exact om167 (by assumption) | omega)⟩
theorem bits_bound {v : Int} {n : Nat} (h : Builtin.Int.intBits v ≤ n) : v.natAbs < 2 ^ n := by
  exact intBits_le_iff.mp h
theorem st_bound {σ : Sy} {mx : Int} {vals : List Int} {b i : Nat} {s : Step} {v : Int} (hm : mx ≤ 66) (h : SG σ b i s) (he : stV σ mx vals s = .ok v) : -(2 ^ 66) ≤ v ∧ v ≤ 2 ^ 66 := by
  have key : ∀ u : Int, (Builtin.Int.intBits u : Int) ≤ mx → -(2 ^ 66) ≤ u ∧ u ≤ 2 ^ 66 := fun u hu => by
    have := bits_bound (n := 66) (v := u) (by (first | with_reducible exact om170 this | with_reducible exact om173 hm hu | omega))
    (first | with_reducible exact om170 this | with_reducible exact om173 hm hu | omega)
  match s, h with
  | .leaf (.num k), h => cases he; exact h.1
  | .leaf (.at k), h => cases he
  | .leaf .var, h => cases he
  | .leaf (.s1 _ _), h => exact absurd (Nat.succ.inj h.2) (Nat.ne_of_gt (Tm.size_pos _))
  | .leaf (.s2 _ _ _), h => exact absurd (Nat.succ.inj h.2) (Nat.ne_of_gt (Nat.lt_of_lt_of_le (Tm.size_pos _) (Nat.le_add_right _ _)))
  | .app f [p], h => obtain ⟨y, _, h2⟩ := bind_ok he; exact key _ (size_ok2 h2).2
  | .app f [p, q], h => obtain ⟨y, _, h2⟩ := bind_ok he; exact key _ (size_ok2 h2).2
end Mine
namespace Mine
open PySem PySem.Calls PyProof.Rows PySem.Spec
theorem pe_ga (w : World) : findIn (mk.heap_1 w.params) (.ref 51) "__getattribute__" = some (some (.builtin "BaseException.__getattribute__")) := by kernel_rfl
theorem pe_gattr (w : World) : findIn (mk.heap_1 w.params) (.ref 51) "__getattr__" = some none := by kernel_rfl
theorem pe_hd (w : World) : hasDictIn (mk.heap_1 w.params) 51 = true := by kernel_rfl
theorem ga_code {w : World} {A : Around} {s : Shared} {e b : Addr} {oe : Obj} {hs : Int} {k tk : Tok} {R : Result → Shared → Prop} (X : (mk.heap_1 w.params).In s.heap) (I : InstAt s.heap e oe 51 (some (dictOf [⟨hs, .str "ball" k, .ref b⟩] 1)))
    (h : R (.ok (.ret (.ref b))) s) : codeAny (model PySem.Challenge.rw_sa0166_01.row.prog w) A (.call (.builtin "BaseException.__getattribute__") ⟨[.ref e, .str "ball" tk], []⟩) R s := by
  obtain ⟨cd, hc, hmro, hdict, hdel⟩ := pe_dat w
  have L0 := I.type (M := (model PySem.Challenge.rw_sa0166_01.row.prog w))
  have L3 := looks_find (M := (model PySem.Challenge.rw_sa0166_01.row.prog w)) X I (findObj_own (pe_hd w) (pe_ball w) rfl rfl)
  have sub : Looks (model PySem.Challenge.rw_sa0166_01.row.prog w) s.heap (isInstance (.ref e) (.type "BaseException")) true := L0.andThen (looks_mroIn X (by unfold mroIn; rw [hc, Option.bind_some, hmro]; rfl))
  refine codeAny_call_builtin PySem.F.excAttr_ValueError.ga.plain PySem.F.entry_bexc_ga (@check_slot (model PySem.Challenge.rw_sa0166_01.row.prog w) _ _ s "BaseException.__getattribute__" "BaseException" "__getattribute__" (.ref e) [.str "ball" tk] [] _ (by decide +kernel) (by decide +kernel) sub (PySem.F.args_bexc_ga (.ref e) (.str "ball" tk)) ?_)
  unfold Builtin.«object.__getattribute__»
  repeat (any_goals (first | assumption | with_reducible exact h | with_reducible refine L0.here ?_ | with_reducible refine L3.here ?_ | wp_step))
theorem get_ball {w : World} {A : Around} {E : Value → Shared → Prop} {s : Shared} {h₀ : Heap} {L e dx b : Addr} {m : Str → Option Value} {led : Led} {oe : Obj} {hs : Int} {k : Tok} {expr : Bool} {Q : Value → Shared → Prop} (F : Fr h₀ L s.heap m) (X₀ : (mk.heap_1 w.params).In h₀) (N : News h₀ L s.heap ((e, oe) :: led)) (hm : (dx, ballD hs k (.ref b)) ∈ led) (h1 : oe.cls = .ref 51) (h2 : oe.dict = some dx) (h3 : ∃ vs, oe.data = .fields vs)
    (h : Q (.ref b) { s with toks := s.toks + 1 }) : wpAny (model PySem.Challenge.rw_sa0166_01.row.prog w) A (getAttr (.ref e) "ball" expr) Q E s := by
  obtain ⟨vs, h3⟩ := h3
  have I : InstAt s.heap e oe 51 (some (dictOf [⟨hs, .str "ball" k, .ref b⟩] 1)) := ⟨(N _ (.head _)).1, h1, by unfold notCls; rw [h3], by rw [h2]; exact (N _ (.tail _ hm)).1⟩
  have X := X₀.keeps F.keep
  have L0 := I.type (M := (model PySem.Challenge.rw_sa0166_01.row.prog w))
  have L1 := looks_findIn (M := (model PySem.Challenge.rw_sa0166_01.row.prog w)) X (pe_ga w)
  have L2 := looks_findIn (M := (model PySem.Challenge.rw_sa0166_01.row.prog w)) X (pe_gattr w)
  have f3 := PySem.F.excAttr_ValueError.ga.bind (.ref e)
  have hx0 : (expr && onTheHeap (Value.builtin "BaseException.__getattribute__")) = false := by cases expr <;> rfl
  have hx2 : (Value.builtin "BaseException.__getattribute__" == Value.builtin "object.__getattribute__") = false := by decide +kernel
  have hx1 : (onTheHeap (Value.ref 51) && Value.builtin "BaseException.__getattribute__" == Value.builtin "object.__getattribute__") = false := by rw [hx2]; rfl
  obtain ⟨hp, g, d, t, os⟩ := s
  unfold getAttr getAttrBy
  refine wpAny_bind (wpAny_mkText (wpAny_holding (wpAny_bind (L0.at (wpAny_bind (L1.at ?_))))))
  repeat (any_goals (first | assumption | with_reducible refine L2.at ?_ | with_reducible refine L0.at ?_ | with_reducible refine ga_code X I ?_ | wp_step))
  refine ga_code X I ?_
  show wpAny _ _ (handedOut (.ref b)) _ _ _
  rw [handedOut_of rfl]; exact wpAny_pure h
theorem txt_mono {σ σ' : Sy} {f k : Int} {ws : List Str} (h : FunOk σ f k ws) (l : σ.Le σ') : σ'.txt f = σ.txt f := by
  obtain ⟨h0, h1, a, x, ha, ha', hf, ht, hx⟩ := h
  obtain ⟨⟨r, e⟩, ⟨q, e'⟩⟩ := l
  rw [txt_of hf ht]
  refine txt_of (a := a) (k := k) ?_ ?_
  · rw [e', List.getElem?_append_left (List.getElem?_eq_some_iff.mp hf).1]; exact hf
  · rw [e, List.getElem?_append_left (List.getElem?_eq_some_iff.mp ht).1]; exact ht
theorem evT_mono {σ σ' : Sy} {mx : Int} (l : σ.Le σ') : ∀ {t : Tm}, t.Good σ → evT σ' mx t = evT σ mx t
  | .num _, _ => rfl
  | .at _, _ => rfl
  | .var, _ => rfl
  | .s1 f a, h => by
    have e1 := evT_mono (mx := mx) l (t := a) h.2
    unfold evT; rw [e1]; unfold ap1; rw [txt_mono h.1 l]
  | .s2 f a b, h => by
    have e1 := evT_mono (mx := mx) l (t := a) h.2.1
    have e2 := evT_mono (mx := mx) l (t := b) h.2.2
    unfold evT; rw [e1, e2]; unfold ap2; rw [txt_mono h.1 l]
theorem rots6 {led P P2 P3 P4 P5 P6 R R1 R2 R3 R4 R5 : Led} (r1 : Rot P led R1) (r2 : Rot P2 R1 R2) (r3 : Rot P3 R2 R3) (r4 : Rot P4 R3 R4) (r5 : Rot P5 R4 R5) (r6 : Rot P6 R5 R) : led.Perm (P ++ (P2 ++ (P3 ++ (P4 ++ (P5 ++ (P6 ++ R)))))) :=
  r1.perm.trans (List.Perm.append_left P (r2.perm.trans (List.Perm.append_left P2 (r3.perm.trans (List.Perm.append_left P3 (r4.perm.trans (List.Perm.append_left P4 (r5.perm.trans (List.Perm.append_left P5 r6.perm)))))))))
theorem rots6J {led P P2 P3 Pa Pb P5 P6 R R1 R2 R3 R4 R5 R6 : Led} (r1 : Rot P led R1) (r2 : Rot P2 R1 R2) (r3 : Rot P3 R2 R3) (r4 : Rot Pa R3 R4) (r4' : Rot Pb R4 R5) (r5 : Rot P5 R5 R6) (r6 : Rot P6 R6 R) : led.Perm (P ++ (P2 ++ (P3 ++ ((Pa ++ Pb) ++ (P5 ++ (P6 ++ R)))))) := by
  rw [List.append_assoc Pa]
  exact rots7 r1 r2 r3 r4 r4' r5 r6
theorem rz_dm {base : Heap} {l : List Env} {e dx : Addr} {led : Led} {h : Heap} {oe : Obj} (R : Rz base l e dx led h) (d : Dm led) : Dm ((e, oe) :: led) := by
  obtain ⟨B, hB, hl, hst, hen, hfr, hfl⟩ := R
  refine .cons (fun q hq => .inr (.inr fun z => ?_)) d
  have h1 := (hl q hq).1
  rw [← z] at h1
  change B.get? e = some q.2 at h1
  rw [hen] at h1; cases h1
theorem goes_X {M : Model} {A : Around} {E : Value → Shared → Prop} {s : Shared} {h₀ : Heap} {L a : Addr} {m : Str → Option Value} {name : Str} {scope : Scope} {cd : Value} {cl : List (Str × Addr)} {news : Led} {n : Str} {pos : Pos} {Q : Unit → Shared → Prop} (F : Fr h₀ L s.heap m) (N : News h₀ L s.heap news)
    (h : ∀ h' v, Fr h₀ L h' (fun x => if x = n then v else m x) → News h₀ L h' news → Q () { s with heap := h', toks := s.toks + 1 })
    (hk : scope.kind = .function := by rfl) (hl : (envX name scope L a cd cl).kindOf n = some .local := by rfl) :
    wpAny M A (do bindName (envX name scope L a cd cl) n .none; unbindBehindTheSuite (envX name scope L a cd cl) n pos) Q E s :=
  wpAny_nameGoes_keeps hl F.ns (by show (scope.kind == .class || (scope.kind == .module && L != mainGlobals)) = false; rw [hk]; rfl) fun h' v hn hs => h h' v (F.set hn hs) (N.set hs)
def WholeIs (σ : Sy) (mx : Int) (x : Tm) (J : Led) (W : Value) : Prop := (∃ v u, W = .int v u ∧ evT σ mx x = .ok v) ∨ (∃ er, evT σ mx x = .error er ∧ er.Known σ ∧ TmV J W (er.ball σ))
def LawMid (w : World) (h₀ : Heap) (L ma st sy sl : Addr) (mx : Int) (x : Tm) (new : List Value) (k : Nat) (c : Addr) (co : Obj) (s s' : Shared) : Prop :=
  ∃ h' tk m W M xs H S σ J hp n R, s' = { s with heap := h', toks := tk } ∧ Fr h₀ L h' m ∧ (m (Str.ofString "whole") = some W ∧ m (Str.ofString "m") = some (.ref ma) ∧ m (Str.ofString "steps") = some (.ref sl)) ∧
    News h₀ L h' (M ++ (H ++ (S ++ (J ++ ([(sl, listOf new.toArray k)] ++ ([(c, co)] ++ R)))))) ∧ Dm (M ++ (H ++ (S ++ (J ++ ([(sl, listOf new.toArray k)] ++ ([(c, co)] ++ R)))))) ∧
    MAt ma st sy mx xs M ∧ xs.length = 1 ∧ StoreAt st sy hp J H ∧ hp.length ≤ 3 * x.size ∧ SymAt w sy σ S ∧ σ.Dot ∧ σ.Small n ∧ n ≤ 300 ∧ x.Good σ ∧ StepsV J new (x.post 0) ∧ WholeIs σ mx x J W
theorem cut_try {w : World} {A : Around} {E : Value → Shared → Prop} {Q : Flow → Shared → Prop} {t : Sem Flow} {s : Shared} {h₀ : Heap} {L ma st sy sl c : Addr} {mx : Int} {x : Tm} {xs new : List Value} {k : Nat} {co : Obj} {M H P S J J0 : Led}
    (_N : News h₀ L s.heap (M ++ (H ++ (P ++ (S ++ (sl, listOf new.toArray k) :: (J ++ (J0 ++ [(c, co)]))))))) (_hM : MAt ma st sy mx xs M) (_hS : StepsV J new (x.post 0))
    (body : wpAny (model PySem.Challenge.rw_sa0166_01.row.prog w) A t (fun f s' => f = .next ∧ LawMid w h₀ L ma st sy sl mx x new k c co s s') E s) (cont : ∀ s', LawMid w h₀ L ma st sy sl mx x new k c co s s' → Q .next s') : wpAny (model PySem.Challenge.rw_sa0166_01.row.prog w) A t Q E s :=
  wpAny_mono body (fun f s' h => h.1 ▸ cont s' h.2) fun _ _ h => h
theorem store_made {M : Model} {A : Around} {E : Value → Shared → Prop} {s : Shared} {h₀ : Heap} {L a c : Addr} {m : Str → Option Value} {cn : Str} {cs : Scope} {ccd : Value} {cl : List (Str × Addr)} {x : Str} {v : Value} {v₀ : Option Value} {Q : Unit → Shared → Prop} {led R : Led} {co : Obj}
    (F : Fr h₀ L s.heap m) (N : News h₀ L s.heap led) (d : Dm led) (r : Rot [(c, co)] led R) (hco : co.data = .cell v₀) (hc : cl.lookup x = some c)
    (h : ∀ h' o', Fr h₀ L h' m → News h₀ L h' ((c, o') :: R) → o'.data = .cell (some v) → Dm ((c, o') :: R) → Q () { s with heap := h' })
    (hk : cs.kind = .function := by rfl) (hx : (envX cn cs L a ccd cl).kindOf x = some .cell := by rfl) : wpAny M A (storeName (envX cn cs L a ccd cl) x v) Q E s := by
  have N' : News h₀ L s.heap ((c, co) :: R) := News.perm r.perm N
  have d' : Dm ((c, co) :: R) := Dm.perm r.perm d
  have hkd : kd co = .none := by unfold kd; rw [hco]
  have hne : ∀ p ∈ R, p.1 ≠ c := fun p hp e => by
    rcases d'.cons_of.1 p hp with h | h | h
    · rw [show kd (c, co).2 = .none from hkd] at h; cases h
    · have h1 := (N' _ (.head _)).1
      have h2 := (N' _ (.tail _ hp)).1
      rw [e] at h2
      have e2 : co = p.2 := Option.some.inj (h1.symm.trans h2)
      rw [← e2, hkd] at h; cases h
    · exact h e.symm
  exact storeX_C F N' hc (.head hne) hco (fun h' o' F' N9 hd' => h h' o' F' N9 hd' (Dm.same (by simp only [List.map_cons, key]; rw [hkd, show kd o' = .none from by unfold kd; rw [hd']]) d')) hk hx
def MadeV (J : Led) (hp : List (Int × Int)) (mvs : List Value) (vals : List Int) : Prop := mvs.length = vals.length ∧ ∀ (j : Nat) (v : Int), vals[j]? = some v → ∃ (a : Addr) (p : Nat), mvs[j]? = some (.ref a) ∧ CellIn J a (0, (p : Int)) ∧ hp[p]? = some (5, v)
theorem MadeV.mono {J J' : Led} {hp : List (Int × Int)} {mvs : List Value} {vals : List Int} (h : MadeV J hp mvs vals) (i : ∀ p ∈ J, p ∈ J') : MadeV J' hp mvs vals :=
  ⟨h.1, fun j v hv => by obtain ⟨a, p, h1, h2, h3⟩ := h.2 j v hv; exact ⟨a, p, h1, h2.mono i, h3⟩⟩
theorem MadeV.grow {J : Led} {hp e : List (Int × Int)} {mvs : List Value} {vals : List Int} (h : MadeV J hp mvs vals) : MadeV J (hp ++ e) mvs vals :=
  ⟨h.1, fun j v hv => by obtain ⟨a, p, h1, h2, h3⟩ := h.2 j v hv; exact ⟨a, p, h1, h2, get_app h3⟩⟩
theorem MadeV.set {J : Led} {hp : List (Int × Int)} {mvs : List Value} {vals : List Int} {a : Addr} {i : Nat} {v : Int} (h : MadeV J hp mvs vals) (hi : hp[i]? = some (0, (i : Int))) (ha : CellIn J a (0, (i : Int))) : MadeV J (hp.set i (5, v)) (mvs ++ [.ref a]) (vals ++ [v]) := by
  have hlt := (List.getElem?_eq_some_iff.mp hi).1
  refine ⟨by simp [h.1], fun j u hu => ?_⟩
  rcases Nat.lt_trichotomy j vals.length with hj | hj | hj
  · rw [List.getElem?_append_left hj] at hu
    obtain ⟨b, p, h1, h2, h3⟩ := h.2 j u hu
    refine ⟨b, p, by rw [List.getElem?_append_left (by rw [h.1]; exact hj)]; exact h1, h2, ?_⟩
    have hne : i ≠ p := fun e => by subst e; rw [hi] at h3; cases h3
    rw [List.getElem?_set_ne hne]; exact h3
  · subst hj
    rw [List.getElem?_append_right (Nat.le_refl _), Nat.sub_self] at hu
    cases hu
    refine ⟨a, i, by rw [← h.1, List.getElem?_append_right (Nat.le_refl _), Nat.sub_self]; rfl, ha, ?_⟩
    rw [List.getElem?_set_self hlt]
  · rw [List.getElem?_append_right (by (first | with_reducible exact om273 hj | with_reducible exact om274 hj | omega))] at hu
    rw [List.getElem?_eq_none (by simp; (first | with_reducible exact om273 hj | with_reducible exact om274 hj | omega))] at hu; cases hu
inductive LawJ (w : World) (ma st sy sl mdl c : Addr) (σ : Sy) (mx : Int) (x : Tm) (new : List Value) (k : Nat) (W : Value) (i : Nat) (m : Str → Option Value) (led : Led) : Prop
  | mk (M : Led) (xs : List Value) (H S J : Led) (hp : List (Int × Int)) (mvs : List Value) (k5 : Nat) (vals : List Int) (o : Obj) (R : Led) (hm : m (Str.ofString "whole") = some W ∧ m (Str.ofString "m") = some (.ref ma))
    (hl : led = M ++ (H ++ (S ++ (J ++ ([(sl, listOf new.toArray k)] ++ ([(c, o)] ++ ([(mdl, listOf mvs.toArray k5)] ++ R))))))) (ho : o.data = .cell (some (.ref mdl)))
    (hM : MAt ma st sy mx xs M) (hx : xs.length = 1 ∨ xs.length = 3) (hH : StoreAt st sy hp J H) (hlen : hp.length ≤ 3 * x.size + 10 * i) (hS : SymAt w sy σ S) (hr : runS σ mx ((x.post 0).take i) [] = .ok vals) (hvl : vals.length = i) (hb : ∀ v ∈ vals, -(2 ^ 66) ≤ v ∧ v ≤ 2 ^ 66)
    (hmd : MadeV J hp mvs vals) (hSt : StepsV J new (x.post 0)) (hW : WholeIs σ mx x J W) : LawJ w ma st sy sl mdl c σ mx x new k W i m led
/-- in a turn, behind the goal's building -/
inductive LawG (w : World) (h₀ : Heap) (L ma st sy sl mdl c : Addr) (σ : Sy) (mx : Int) (x : Tm) (new : List Value) (k : Nat) (W : Value) (i : Nat) (sx : Step) (I : Addr) (io : Obj) (s s' : Shared) : Prop
  | mk (h' : Heap) (tk : Nat) (m : Str → Option Value) (M : Led) (xs : List Value) (H S J : Led) (hp : List (Int × Int)) (mvs : List Value) (k5 : Nat) (vals : List Int) (o : Obj) (R : Led) (gc : Addr) (ct : Int × Int) (t : Tm) (as : List Nat)
    (e : s' = { s with heap := h', toks := tk }) (F : Fr h₀ L h' m) (hm : m (Str.ofString "whole") = some W ∧ m (Str.ofString "m") = some (.ref ma) ∧ m (Str.ofString "goal") = some (.ref gc))
    (N : News h₀ L h' ([(I, io)] ++ (M ++ (H ++ (S ++ (J ++ ([(sl, listOf new.toArray k)] ++ ([(c, o)] ++ ([(mdl, listOf mvs.toArray k5)] ++ R)))))))))
    (D : Dm ([(I, io)] ++ (M ++ (H ++ (S ++ (J ++ ([(sl, listOf new.toArray k)] ++ ([(c, o)] ++ ([(mdl, listOf mvs.toArray k5)] ++ R))))))))) (ho : o.data = .cell (some (.ref mdl)))
    (hM : MAt ma st sy mx xs M) (hx : xs.length = 1 ∨ xs.length = 3) (hH : StoreAt st sy hp J H) (hlen : hp.length ≤ 3 * x.size + 10 * i + 5) (hS : SymAt w sy σ S) (hr : runS σ mx ((x.post 0).take i) [] = .ok vals) (hvl : vals.length = i) (hb : ∀ v ∈ vals, -(2 ^ 66) ≤ v ∧ v ≤ 2 ^ 66)
    (hmd : MadeV J hp mvs vals) (hSt : StepsV J new (x.post 0)) (hW : WholeIs σ mx x J W)
    (hgc : CellIn J gc ct) (hL : Lies hp ct t as) (hnd : as.Nodup) (hg : t.Good σ) (hts : t.size < 400) (hev : evT σ mx t = stV σ mx vals sx) : LawG w h₀ L ma st sy sl mdl c σ mx x new k W i sx I io s s'
theorem cut_goal {w : World} {A : Around} {E : Value → Shared → Prop} {Q : Flow → Shared → Prop} {t : Sem Flow} {s : Shared} {h₀ : Heap} {L ma st sy sl mdl c I : Addr} {σ : Sy} {mx : Int} {x : Tm} {xs new mvs : List Value} {k k5 : Nat} {W : Value} {i : Nat} {sx : Step} {o io : Obj} {M H S J R : Led}
    (_N : News h₀ L s.heap ((I, io) :: (M ++ (H ++ (S ++ (J ++ (sl, listOf new.toArray k) :: (c, o) :: (mdl, listOf mvs.toArray k5) :: R)))))) (_hM : MAt ma st sy mx xs M) (_hS : SymAt w sy σ S) (_hSt : StepsV J new (x.post 0)) (_hsx : (x.post 0)[i]? = some sx) (_hW : WholeIs σ mx x J W)
    (body : wpAny (model PySem.Challenge.rw_sa0166_01.row.prog w) A t (fun f s' => f = .next ∧ LawG w h₀ L ma st sy sl mdl c σ mx x new k W i sx I io s s') E s) (cont : ∀ s', LawG w h₀ L ma st sy sl mdl c σ mx x new k W i sx I io s s' → Q .next s') : wpAny (model PySem.Challenge.rw_sa0166_01.row.prog w) A t Q E s :=
  wpAny_mono body (fun f s' h => h.1 ▸ cont s' h.2) fun _ _ h => h
end Mine
namespace Mine
open PySem PySem.Calls PyProof.Rows PySem.Spec
theorem law_iter {w : World} {A : Around} {E : Value → Shared → Prop} {Q : Flow → Shared → Prop} {s : Shared} {env : Env} {h₀ : Heap} {y : Str} {body : List Stmt} {m : Str → Option Value} {ma st sy sl mdl c : Addr} {σ : Sy} {mx : Int} {x : Tm} {new xs : List Value} {k k5 : Nat} {W : Value} {o : Obj} {M H S J R : Led} {hp : List (Int × Int)}
    (hh : A.handled = none) (F : Fr h₀ env.locals s.heap m) (N : News h₀ env.locals s.heap ((c, o) :: (mdl, listOf #[] k5) :: (M ++ (H ++ (S ++ (J ++ (sl, listOf new.toArray k) :: R)))))) (d : Dm ((c, o) :: (mdl, listOf #[] k5) :: (M ++ (H ++ (S ++ (J ++ (sl, listOf new.toArray k) :: R))))))
    (hm : m (Str.ofString "whole") = some W ∧ m (Str.ofString "m") = some (.ref ma)) (ho : o.data = .cell (some (.ref mdl))) (hM : MAt ma st sy mx xs M) (hx : xs.length = 1) (hH : StoreAt st sy hp J H) (hlen : hp.length ≤ 3 * x.size) (hS : SymAt w sy σ S) (hSt : StepsV J new (x.post 0)) (hW : WholeIs σ mx x J W)
    (turn : ∀ i v m₁ led₁ h tk I io, new[i]? = some v → LawJ w ma st sy sl mdl c σ mx x new k W i m₁ led₁ → Fr h₀ env.locals h (fun z => if z = y then some v else m₁ z) → News h₀ env.locals h ((I, io) :: led₁) → Dm ((I, io) :: led₁) → io.cls ≠ .type "tuple" →
      wpAny (model PySem.Challenge.rw_sa0166_01.row.prog w) A (execs body env) (TurnQ h₀ env.locals { s with heap := h, toks := tk } I io (LawJ w ma st sy sl mdl c σ mx x new k W (i + 1)) Q) E { s with heap := h, toks := tk })
    (done : ∀ m₁ led₁ h tk, LawJ w ma st sy sl mdl c σ mx x new k W new.length m₁ led₁ → Fr h₀ env.locals h m₁ → News h₀ env.locals h led₁ → Dm led₁ → Q .next { s with heap := h, toks := tk }) :
    wpAny (model PySem.Challenge.rw_sa0166_01.row.prog w) A (pyIter (.ref sl)) (fun it s₂ => LoopAtV PySem.Challenge.rw_sa0166_01.row.prog w A h₀ env y body Q E it s₂) E s := by
  have p : List.Perm ((c, o) :: (mdl, listOf #[] k5) :: (M ++ (H ++ (S ++ (J ++ (sl, listOf new.toArray k) :: R))))) (M ++ (H ++ (S ++ (J ++ ([(sl, listOf new.toArray k)] ++ ([(c, o)] ++ ([(mdl, listOf ([] : List Value).toArray k5)] ++ R))))))) :=
    rots7 (P := M) (P2 := H) (P3 := S) (P4 := J) (P5 := [(sl, listOf new.toArray k)]) (P6 := [(c, o)]) (P7 := [(mdl, listOf ([] : List Value).toArray k5)]) (.skip (.skip .here)) (.skip (.skip .here)) (.skip (.skip .here)) (.skip (.skip .here)) (.skip (.skip (.one'))) (.one') (.one')
  have hmem : ∀ {Z : Led}, (sl, listOf new.toArray k) ∈ ([(sl, listOf new.toArray k)] ++ Z) := List.mem_append_left _ (List.mem_singleton.mpr rfl)
  refine iter_led (vs := new) (n := k) (LawJ w ma st sy sl mdl c σ mx x new k W) hh F (News.perm p N) (Dm.perm p d) (List.mem_append_right _ (List.mem_append_right _ (List.mem_append_right _ (List.mem_append_right _ hmem)))) (.inl rfl)
    ⟨M, xs, H, S, J, hp, [], k5, [], o, R, hm, rfl, ho, hM, .inl hx, hH, by omega, hS, by rw [List.take_zero]; rfl, rfl, (fun _ h => nomatch h), ⟨rfl, fun j v hv => by cases hv⟩, hSt, hW⟩ (fun i m led hJ => ?_) turn done
  obtain ⟨M, xs, H, S, J, hp, mvs, k5, vals, o, R, _, e⟩ := hJ
  rw [e]; exact List.mem_append_right _ (List.mem_append_right _ (List.mem_append_right _ (List.mem_append_right _ hmem)))
end Mine
namespace Mine
open PySem PySem.Calls PyProof.Rows PySem.Spec
theorem made_one {J : Led} {hp : List (Int × Int)} {mvs : List Value} {vals : List Int} {p : Int} (h : MadeV J hp mvs vals) (h0 : 0 ≤ p) (h1 : p < (vals.length : Int)) {G : Prop} (K : ∀ (a : Addr) (j : Nat), mvs.getD p.toNat .none = .ref a → CellIn J a (0, (j : Int)) → hp[j]? = some (5, vals.getD p.toNat 0) → Der hp 1 (0, (j : Int)) (5, vals.getD p.toNat 0) → G) : G := by
  have hv : vals[p.toNat]? = some (vals.getD p.toNat 0) := by
    rw [List.getD_eq_getElem?_getD, List.getElem?_eq_getElem (by (first | with_reducible exact om105 h0 h1 | with_reducible exact om6 | omega))]; rfl
  obtain ⟨a, j, e1, e2, e3⟩ := h.2 _ _ hv
  exact K a j (by rw [List.getD_eq_getElem?_getD, e1]; rfl) e2 e3 (.step (by simp) (.val (by simp) (by simp)) (by (first | with_reducible exact om105 h0 h1 | with_reducible exact om6 | omega)) (by simpa using e3))
theorem cells_cons {J : Led} {a : Addr} {c : Int × Int} {vs : List Value} {hp : List (Int × Int)} (h : CellIn J a c) (r : CellsV J vs hp) : CellsV J (.ref a :: vs) (c :: hp) :=
  ⟨by rw [List.length_cons, List.length_cons, r.1], fun i c' hc => by
    rcases i with _ | i
    · obtain rfl : c = c' := Option.some.inj hc
      exact ⟨a, rfl, h⟩
    · exact r.2 i c' hc⟩
theorem app_goal {J : Led} {hp : List (Int × Int)} {mvs : List Value} {vals : List Int} {σ : Sy} {i : Nat} {f : Int} {ps : List Int} (h : MadeV J hp mvs vals) (hvl : vals.length = i) (hs : SG σ 0 i (.app f ps)) (hb : ∀ v ∈ vals, -(2 ^ 66) ≤ v ∧ v ≤ 2 ^ 66)
    {G : Prop} (K : ∀ (cts ces : List (Int × Int)) (fa : Int), CellsV J (ps.map fun p => mvs.getD p.toNat .none) cts → 0 < cts.length → cts.length < 900 → ces.length = cts.length → ces.length ≤ 2 → (∀ (i : Nat) ct ce, cts[i]? = some ct → ces[i]? = some ce → (∃ q, Der hp q ct ce) ∧ ce.1 ≠ 1) → 0 < f → f < 100000 → σ.funs[f.toNat]? = some (fa, (cts.length : Int)) → Lies (hp ++ (6, f) :: ces) (2, (hp.length : Int)) (stT vals (.app f ps)) [hp.length] → (stT vals (.app f ps)).Good σ → (stT vals (.app f ps)).size < 400 → G) : G := by
  have hg : ∀ p : Int, 0 ≤ p → p < (vals.length : Int) → -(2 ^ 66) ≤ vals.getD p.toNat 0 ∧ vals.getD p.toNat 0 ≤ 2 ^ 66 := fun p h0 h1 => by
    refine hb _ ?_
    rw [List.getD_eq_getElem?_getD, List.getElem?_eq_getElem (by (first | with_reducible exact om116 hvl h1 | with_reducible exact om116 hvl h1' | with_reducible exact om123 h0 h1 | omega))]
    exact List.getElem_mem _
  match ps, hs with
  | [p], hs =>
    obtain ⟨hf, h0, h1⟩ := hs
    refine made_one (p := p) h (by (first | with_reducible exact om116 hvl h1 | with_reducible exact om116 hvl h1' | with_reducible exact om123 h0 h1 | omega)) (by (first | with_reducible exact om116 hvl h1 | with_reducible exact om116 hvl h1' | with_reducible exact om123 h0 h1 | omega)) fun a j e1 e2 e3 e4 => ?_
    refine hf.2.2.elim fun fa q9 => q9.elim fun _ q9 => ?_
    have hf0 := hf.1
    have hf1 := hf.2.1
    have hff := q9.2.2.1
    exact K [(0, (j : Int))] [(5, vals.getD p.toNat 0)] fa (show CellsV J [mvs.getD p.toNat .none] _ by rw [e1]; exact cells_cons e2 CellsV.nil) (by decide : 0 < 1) (by decide : 1 < 900) rfl (by decide : 1 ≤ 2) (entC ⟨⟨_, e4⟩, (by decide : (5 : Int) ≠ 1)⟩ entN) hf0 hf1 hff (.s1 (a := hp.length) (by simp) (by simp) .num) ⟨hf, hg p (by (first | with_reducible exact om116 hvl h1 | with_reducible exact om116 hvl h1' | with_reducible exact om123 h0 h1 | omega)) (by (first | with_reducible exact om116 hvl h1 | with_reducible exact om116 hvl h1' | with_reducible exact om123 h0 h1 | omega))⟩ (by decide : 2 < 400)
  | [p, q], hs =>
    obtain ⟨hf, ⟨h0, h1⟩, ⟨h0', h1'⟩⟩ := hs
    refine made_one (p := p) h (by (first | with_reducible exact om116 hvl h1 | with_reducible exact om116 hvl h1' | with_reducible exact om123 h0 h1 | omega)) (by (first | with_reducible exact om116 hvl h1 | with_reducible exact om116 hvl h1' | with_reducible exact om123 h0 h1 | omega)) fun a j e1 e2 e3 e4 => ?_
    refine made_one (p := q) h (by (first | with_reducible exact om116 hvl h1 | with_reducible exact om116 hvl h1' | with_reducible exact om123 h0 h1 | omega)) (by (first | with_reducible exact om116 hvl h1 | with_reducible exact om116 hvl h1' | with_reducible exact om123 h0 h1 | omega)) fun a' j' e1' e2' e3' e4' => ?_
    refine hf.2.2.elim fun fa q9 => q9.elim fun _ q9 => ?_
    have hf0 := hf.1
    have hf1 := hf.2.1
    have hff := q9.2.2.1
    exact K [(0, (j : Int)), (0, (j' : Int))] [(5, vals.getD p.toNat 0), (5, vals.getD q.toNat 0)] fa (show CellsV J [mvs.getD p.toNat .none, mvs.getD q.toNat .none] _ by rw [e1, e1']; exact cells_cons e2 (cells_cons e2' CellsV.nil)) (by decide : 0 < 2) (by decide : 2 < 900) rfl (by decide : 2 ≤ 2) (entC ⟨⟨_, e4⟩, (by decide : (5 : Int) ≠ 1)⟩ (entC ⟨⟨_, e4'⟩, (by decide : (5 : Int) ≠ 1)⟩ entN)) hf0 hf1 hff (.s2 (a := hp.length) (as := []) (bs := []) (by simp) (by simp) (by simp) .num .num) ⟨hf, hg p (by (first | with_reducible exact om116 hvl h1 | with_reducible exact om116 hvl h1' | with_reducible exact om123 h0 h1 | omega)) (by (first | with_reducible exact om116 hvl h1 | with_reducible exact om116 hvl h1' | with_reducible exact om123 h0 h1 | omega)), hg q (by (first | with_reducible exact om116 hvl h1 | with_reducible exact om116 hvl h1' | with_reducible exact om123 h0 h1 | omega)) (by (first | with_reducible exact om116 hvl h1 | with_reducible exact om116 hvl h1' | with_reducible exact om123 h0 h1 | omega))⟩ (by decide : 3 < 400)
/-- a step is a leaf, or a functor over places -/
theorem step_cases {J : Led} {v : Value} {s : Step} (h : StepV J v s) {G : Prop} (K1 : ∀ t, s = .leaf t → TmV J v t → ∀ a x t1 n t2 k, v = .ref a → (a, tupO [.str x t1, .int n t2] k) ∈ J → G)
    (K2 : ∀ (a b : Addr) (f : Int) (t : Tok) (k : Nat) (ps : List Int) (pvs : List Value) (n : Nat), s = .app f ps → v = .ref a → (a, tupO [.int f t, .ref b] k) ∈ J → (b, listOf pvs.toArray n) ∈ J → pvs.length = ps.length → pvs.length < 3 → (∀ (j : Nat) v, pvs[j]? = some v → ∃ p u, v = Value.int p u ∧ ps[j]? = some p) → G) : G := by
  cases h with
  | @leaf v t h hl =>
    have q := h.fn
    cases t with
    | «at» n => exact q _ fun a t t' k e m => K1 _ rfl h a _ t _ t' k e m
    | var => exact q _ fun a t t' k e m => K1 _ rfl h a _ t _ t' k e m
    | num n => exact q _ fun a t t' k e m => K1 _ rfl h a _ t _ t' k e m
    | s1 _ _ => exact hl.elim
    | s2 _ _ _ => exact hl.elim
  | app1 m m' => exact K2 _ _ _ _ _ _ [_] _ rfl rfl m m' rfl (by decide : 1 < 3) (atC ⟨_, _, rfl, rfl⟩ atN)
  | app2 m m' => exact K2 _ _ _ _ _ _ [_, _] _ rfl rfl m m' rfl (by decide : 2 < 3) (atC ⟨_, _, rfl, rfl⟩ (atC ⟨_, _, rfl, rfl⟩ atN))
theorem comp_turns {prog : Program} {w : World} {A : Around} {s : Shared} {h₀ : Heap} {L : Addr} {m : Str → Option Value} {env : Env} {elt : Expr} {x : Str} {scope : Scope} {cl : List (Str × Addr)} {S : Led → Prop} {pvs outs : List Value} {Fin : List Value → Led → Prop} {news : Led}
    (hS : S news) (hl : outs.length = pvs.length) (fin : Fin outs news)
    (turn : ∀ (j : Nat) v u I oI C oC D ys m₂ h tk (Q' E' : Value → Shared → Prop), pvs[j]? = some v → outs[j]? = some u → LCg.NsObj oC m₂ → m₂ x = some v → Fr h₀ L h m → News h₀ L h ((I, oI) :: (C, oC) :: (D, LCg.lst ys) :: news) → (∀ tk', Q' u { s with heap := h, toks := tk' }) → wpAny (model prog w) A (eval elt (compEnvC scope cl C env)) Q' E' { s with heap := h, toks := tk }) :
    ∀ (n i : Nat), i + n = pvs.length → LCg.CompRest prog w A h₀ L m env elt x scope cl s S (fun i v => pvs.toArray[i]? = some v) Fin n i (outs.take i) news
  | 0, i, hi => by
    refine LCg.CompRest.zero ?_
    rw [show outs.take i = outs from List.take_of_length_le (by (first | with_reducible exact om121 hi | with_reducible exact om122 hl hi | with_reducible exact om124 hl hi | with_reducible exact op77 hl hi | omega))]; exact fin
  | n + 1, i, hi => by
    refine LCg.CompRest.succ fun v I oI C oC D m₂ h tk E' hv hC hx F N off ne => ?_
    have hv' : pvs[i]? = some v := by simpa using hv
    have ho : outs[i]? = some outs[i] := List.getElem?_eq_getElem (by (first | with_reducible exact om121 hi | with_reducible exact om122 hl hi | with_reducible exact om124 hl hi | with_reducible exact op77 hl hi | omega))
    refine turn i v outs[i] I oI C oC D _ m₂ h tk _ E' hv' ho hC hx F N fun tk' => ?_
    refine LCg.CompEnd.intro (s₁ := { s with heap := h, toks := tk }) F N news (fun _ h => h) off hS ?_
    have := comp_turns hS hl fin turn n (i + 1) (by (first | with_reducible exact om121 hi | with_reducible exact om122 hl hi | with_reducible exact om124 hl hi | with_reducible exact op77 hl hi | omega))
    rw [List.take_add_one, ho] at this
    exact this
theorem Lies.app {hp e : List (Int × Int)} {c : Int × Int} {t : Tm} {as : List Nat} (h : Lies hp c t as) : Lies (hp ++ e) c t as := by
  induction h with
  | num => exact .num
  | «at» => exact .at
  | var h => exact .var (get_app h)
  | s1 h1 h2 _ ih => exact .s1 (get_app h1) (get_app h2) ih
  | s2 h1 h2 h3 _ _ ih ih' => exact .s2 (get_app h1) (get_app h2) (get_app h3) ih ih'
theorem comp_src {prog : Program} {w : World} {A : Around} {h₀ : Heap} {L : Addr} {m : Str → Option Value} {env : Env} {elt : Expr} {x : Str} {scope : Scope} {cl : List (Str × Addr)} {pvs : List Value} {Fin : Shared → List Value → Led → Prop} {led : Led} {b : Addr} {k : Nat} {s₁ : Shared} (outs : List Value)
    (hh : A.handled = none) (F : Fr h₀ L s₁.heap m) (N : News h₀ L s₁.heap led) (hm : (b, listOf pvs.toArray k) ∈ led) (hl : outs.length = pvs.length) (hz : pvs.length < 3)
    (fin : ∀ g, Fin { s₁ with heap := g } outs led)
    (turn : ∀ (j : Nat) v u I oI C oC D ys m₂ h tk (Q' E' : Value → Shared → Prop), pvs[j]? = some v → outs[j]? = some u → LCg.NsObj oC m₂ → m₂ x = some v → Fr h₀ L h m → News h₀ L h ((I, oI) :: (C, oC) :: (D, LCg.lst ys) :: led) → (∀ tk', Q' u { s₁ with heap := h, toks := tk' }) → wpAny (model prog w) A (eval elt (compEnvC scope cl C env)) Q' E' { s₁ with heap := h, toks := tk }) :
    LCg.CompSrc prog w A h₀ L m env elt x scope cl Fin (.ref b) s₁ := by
  refine LCg.CompSrc.ledger (its := pvs.toArray) (k := k) hh F N hm (by rw [sizeLine_eq]; simp; (first | with_reducible exact om118 hz | with_reducible exact om119 | omega)) fun g => ?_
  exact comp_turns (s := { s₁ with heap := g }) (.inr ⟨_, hm, rfl, _, rfl⟩) hl (fin g) (fun j v u I oI C oC D ys m₂ h tk Q' E' => turn j v u I oI C oC D ys m₂ h tk Q' E') pvs.length 0 (by (first | with_reducible exact om118 hz | with_reducible exact om119 | omega))
theorem off1_mem {D : Addr} : ∀ {l : Led}, LCg.Off1 D l → ∀ p ∈ l, @Ne Nat p.1 D
  | [], _, _, h => nomatch h
  | _ :: _, x, p, h => by
    rcases List.mem_cons.mp h with rfl | h
    · exact x.1
    · exact off1_mem x.2 p h
theorem off1_dm {D : Addr} {o : Obj} {l : Led} (h : LCg.Off1 D l) (d : Dm l) : Dm ((D, o) :: l) := .cons (fun p hp => .inr (.inr fun e => off1_mem h p hp e.symm)) d
theorem WholeIs.mono {σ : Sy} {mx : Int} {x : Tm} {J J' : Led} {W : Value} (h : WholeIs σ mx x J W) (i : ∀ p ∈ J, p ∈ J') : WholeIs σ mx x J' W := by
  rcases h with h | ⟨er, h1, h2, h3⟩
  · exact .inl h
  · exact .inr ⟨er, h1, h2, h3.mono i⟩
theorem ball_dep {σ : Sy} (er : Er) : (er.ball σ).dep ≤ 8 := by cases er <;> exact Nat.le_of_ble_eq_true rfl
theorem eq_balls {prog : Program} {w : World} {A : Around} {E : Value → Shared → Prop} {s : Shared} {h₀ : Heap} {L : Addr} {led : Led} {v u : Value} {σ : Sy} {er : Er} {Q : Value → Shared → Prop} (N : News h₀ L s.heap led) (h1 : TmV led v (er.ball σ)) (h2 : TmV led u (er.ball σ)) (hu : A.units + 8 < cLine) (h : Q (.bool true) s) : wpAny (model prog w) A (compareOp .Eq v u) Q E s := by
  obtain ⟨a, b, e1, e2, r⟩ := tm_rc N (er.ball σ) (A := A) h1 h2 (Nat.lt_of_le_of_lt (Nat.add_le_add_left (ball_dep er) _) hu)
  subst e1 e2
  exact r prog w E Q h
/-- the step that raises raises what the whole raised -/
theorem whole_err {σ : Sy} {mx : Int} {x : Tm} {J : Led} {W : Value} {i : Nat} {vals : List Int} {sx : Step} {er : Er} (h : WholeIs σ mx x J W) (hr : runS σ mx ((x.post 0).take i) [] = .ok vals) (hs : (x.post 0)[i]? = some sx) (he : stV σ mx vals sx = .error er) : er.Known σ ∧ TmV J W (er.ball σ) := by
  have e := run_err hr hs he
  rcases h with ⟨v, u, _, h2⟩ | ⟨er', h1, h2, h3⟩
  · rw [e] at h2; cases h2
  · rw [e] at h1; cases h1; exact ⟨h2, h3⟩
theorem rotsG {led P0 P P2 P3 P4 P5 P6 P7 R R0 R1 R2 R3 R4 R5 R6 : Led} (r0 : Rot P0 led R0) (r1 : Rot P R0 R1) (r2 : Rot P2 R1 R2) (r3 : Rot P3 R2 R3) (r4 : Rot P4 R3 R4) (r5 : Rot P5 R4 R5) (r6 : Rot P6 R5 R6) (r7 : Rot P7 R6 R) : led.Perm (P0 ++ (P ++ (P2 ++ (P3 ++ (P4 ++ (P5 ++ (P6 ++ (P7 ++ R)))))))) :=
  r0.perm.trans (List.Perm.append_left P0 (rots7 r1 r2 r3 r4 r5 r6 r7))
theorem sg_range {σ : Sy} {i : Nat} {f : Int} {ps : List Int} (h : SG σ 0 i (.app f ps)) {j : Nat} {p : Int} (hj : ps[j]? = some p) : 0 ≤ p ∧ p < (i : Int) := by
  match ps, h with
  | [a], h =>
    match j, hj with
    | 0, hj => cases hj; exact ⟨by have := h.2.1; (first | with_reducible exact om120 this | omega), by have := h.2.2; (first | with_reducible exact om120 this | omega)⟩
  | [a, b], h =>
    match j, hj with
    | 0, hj => cases hj; exact ⟨by have := h.2.1.1; (first | with_reducible exact om120 this | omega), by have := h.2.1.2; (first | with_reducible exact om120 this | omega)⟩
    | 1, hj => cases hj; exact ⟨by have := h.2.2.1; (first | with_reducible exact om120 this | omega), by have := h.2.2.2; (first | with_reducible exact om120 this | omega)⟩
theorem place_at {J : Led} {hp : List (Int × Int)} {mvs outs pvs : List Value} {vals : List Int} {σ : Sy} {i j : Nat} {f : Int} {ps : List Int} {v u : Value} (h : MadeV J hp mvs vals) (hvl : vals.length = i) (hs : SG σ 0 i (.app f ps)) (hp : ∀ (j : Nat) v, pvs[j]? = some v → ∃ p u, v = Value.int p u ∧ ps[j]? = some p) (ho : outs = ps.map fun p => mvs.getD p.toNat .none)
    (hv : pvs[j]? = some v) (hu : outs[j]? = some u) : ∃ p t, v = Value.int p t ∧ mvs[p.toNat]? = some u ∧ 0 ≤ p ∧ p < (i : Int) := by
  obtain ⟨p, t, e, e2⟩ := hp j v hv
  obtain ⟨h0, h1⟩ := sg_range hs e2
  refine ⟨p, t, e, ?_, h0, h1⟩
  rw [ho, List.getElem?_map, e2] at hu
  have hu : mvs.getD p.toNat .none = u := Option.some.inj hu
  rw [← hu, List.getD_eq_getElem?_getD, List.getElem?_eq_getElem (by rw [h.1]; (first | with_reducible exact om117 hvl h0 h1 | omega))]
  rfl
end Mine
open Mine
theorem Mine.wd95 : True := by
  (k_with "mine k_ltW" => (intro lt9; (k_dflt (have dm1Z9 := Dm.newN (by assumption) lt9 (by assumption) (by first | rfl | (simp only [List.map_append, List.map_cons]; rfl))); have hRawZ9 := lt9; replace lt9 := allLt_of lt9; (try simp only [AllLt, and_true] at lt9))))
  trivial
local macro_rules | `(tactic| k_in) => `(tactic| k_extra "mine k_in")
theorem Mine.wd96 : True := by
  (k_with "mine k_in" => (first | k_in_fast | exact PySem.W.Frag.In.keeps (by k_asm) (PyProof.Rows.Fr.keep (by k_asm))))
  trivial
theorem Mine.done.tw10708302051277254144 : True := trivial
theorem Mine.done.tw5703156385829349896 : True := trivial
theorem Mine.done.tw8910024187569259653 : True := trivial
theorem Mine.done.tw9872650296151216939 : True := trivial
theorem Mine.done.tw16551166809463398587 : True := trivial
theorem Mine.done.tw15802845726147986729 : True := trivial
theorem Mine.done.tw14291824020741984991 : True := trivial
theorem Mine.done.tw11920452734565203547 : True := trivial
theorem Mine.done.tw7784177937430852255 : True := trivial
theorem Mine.done.tw5233909782350396238 : True := trivial
theorem Mine.done.tw12794705873273489783 : True := trivial
theorem Mine.done.tw11891429603403515838 : True := trivial
theorem Mine.done.tw2173528597104598542 : True := trivial
theorem Mine.done.tw14191932566411763672 : True := trivial
theorem Mine.done.tw5138219245726466772 : True := trivial
theorem Mine.done.tw2819300761851436125 : True := trivial
theorem Mine.done.tw7719232279441922431 : True := trivial
theorem Mine.done.tw9853874057843372491 : True := trivial
theorem Mine.done.tw17963482246988568607 : True := trivial
theorem Mine.done.tw15199386095190423081 : True := trivial
theorem Mine.done.tw17424087617874321392 : True := trivial
theorem Mine.done.tw14149526895575877812 : True := trivial
theorem Mine.done.tw4156658126073597195 : True := trivial
theorem Mine.done.tw13967332423243345209 : True := trivial
theorem Mine.done.tw9955657707093550094 : True := trivial
theorem Mine.done.tw370096636160286676 : True := trivial
theorem Mine.done.tw9080891046419994337 : True := trivial
theorem Mine.done.tw4155672818914393634 : True := trivial
theorem Mine.done.tw9013814754958811948 : True := trivial
theorem Mine.done.tw3214584163971024684 : True := trivial
theorem Mine.done.tw12579942429806422203 : True := trivial
theorem Mine.done.tw8001887489129053721 : True := trivial
theorem Mine.done.tw16398401670286916682 : True := trivial
theorem Mine.done.tw5818176820336911114 : True := trivial
theorem Mine.done.tw13311410370014825338 : True := trivial
theorem Mine.done.tw10979223327657359216 : True := trivial
theorem Mine.done.tw948444147923620596 : True := trivial
theorem Mine.done.tw1333255159598683475 : True := trivial
theorem Mine.done.tw16000339862613694240 : True := trivial
theorem Mine.done.tw13251818080309570690 : True := trivial
theorem Mine.done.tw17597908711550189116 : True := trivial
theorem Mine.done.tw1429849118363440307 : True := trivial
theorem Mine.done.tw4042717787739954373 : True := trivial
theorem Mine.done.tw13057725448023774484 : True := trivial
theorem Mine.done.tw1034699155849655464 : True := trivial
theorem Mine.done.tw4967747075438863546 : True := trivial
theorem Mine.done.tw13241830558694922334 : True := trivial
theorem Mine.done.tw10253532938835242701 : True := trivial
theorem Mine.done.tw10020888585819646692 : True := trivial
theorem Mine.done.tw15795681606706534981 : True := trivial
theorem Mine.done.tw15833377280290313880 : True := trivial
theorem Mine.done.tw9328177155416747193 : True := trivial
theorem Mine.done.tw12835248119848368288 : True := trivial
theorem Mine.done.tw18101206260741928734 : True := trivial
theorem Mine.done.tw8781988333069925714 : True := trivial
theorem Mine.done.tw10754756475924245029 : True := trivial
theorem Mine.done.tw9936024399840719848 : True := trivial
theorem Mine.done.tw4415000882257472733 : True := trivial
theorem Mine.done.tw525382047659698124 : True := trivial
theorem Mine.done.tw15420249272821219745 : True := trivial
theorem Mine.done.tw842342481138945408 : True := trivial
theorem Mine.done.tw17198752376766413015 : True := trivial
theorem Mine.done.tw123440360689735436 : True := trivial
theorem Mine.done.tw15780933790967761073 : True := trivial
theorem Mine.done.tw6756573269608677477 : True := trivial
theorem Mine.done.tw11007300238807264778 : True := trivial
theorem Mine.done.tw4247827699234647161 : True := trivial
theorem Mine.done.tw8823422235310250959 : True := trivial
theorem Mine.done.tw16343611814332100236 : True := trivial
theorem Mine.done.tw8200220273081632396 : True := trivial
theorem Mine.done.tw7642084887291746878 : True := trivial
theorem Mine.done.tw3629996014460934417 : True := trivial
theorem Mine.done.tw10706506950492885993 : True := trivial
theorem Mine.done.tw3968177273408072452 : True := trivial
theorem Mine.done.tw17504375851242185287 : True := trivial
theorem Mine.done.tw11097277080936767496 : True := trivial
theorem Mine.done.tw13281735891615971324 : True := trivial
theorem Mine.done.tw1954916090340201811 : True := trivial
theorem Mine.done.tw15362946595362515167 : True := trivial
theorem Mine.done.tw5070507189406271664 : True := trivial
theorem Mine.done.tw8958818562547392187 : True := trivial
theorem Mine.done.tw11861259077669908198 : True := trivial
theorem Mine.done.tw10884714789105563704 : True := trivial
theorem Mine.done.tw16974512038536162654 : True := trivial
theorem Mine.done.tw12766432439842003610 : True := trivial
theorem Mine.done.tw18343919571123469869 : True := trivial
theorem Mine.done.tw15875942823431428478 : True := trivial
theorem Mine.done.tw5087857255262849415 : True := trivial
theorem Mine.done.tw11302905141915434593 : True := trivial
theorem Mine.done.tw9088630957926785415 : True := trivial
theorem Mine.done.tw12731245391962081678 : True := trivial
theorem Mine.done.tw11783966141872938222 : True := trivial
theorem Mine.done.tw15579197379147033960 : True := trivial
theorem Mine.done.tw15124884141385916404 : True := trivial
theorem Mine.done.tw14473389572151168896 : True := trivial
theorem Mine.done.tw17352284619701232157 : True := trivial
theorem Mine.done.tw9361268651512085604 : True := trivial
theorem Mine.done.tw7249571840375592694 : True := trivial
theorem Mine.done.tw2904332161776554072 : True := trivial
theorem Mine.done.tw9159552481088047397 : True := trivial
theorem Mine.done.tw11763621477867869212 : True := trivial
theorem Mine.done.tw9524551528720031045 : True := trivial
theorem Mine.done.tw670853825944019377 : True := trivial
theorem Mine.done.tw3902619832775076207 : True := trivial
theorem Mine.done.tw2981659639708195360 : True := trivial
theorem Mine.done.tw13580903400934358402 : True := trivial
theorem Mine.done.tw17544609520446046969 : True := trivial
theorem Mine.done.tw17816085581751397393 : True := trivial
theorem Mine.done.tw7359390095207086105 : True := trivial
theorem Mine.done.tw3693188825869178325 : True := trivial
theorem Mine.done.tw14929653609940889315 : True := trivial
theorem Mine.done.tw2871774384440582142 : True := trivial
theorem Mine.done.tw14021784295821644561 : True := trivial
theorem Mine.done.tw4500640529050907332 : True := trivial
theorem Mine.done.tw14782410855978200882 : True := trivial
theorem Mine.done.tw8703471578052827461 : True := trivial
theorem Mine.done.tw7810441486887205940 : True := trivial
theorem Mine.done.tw9862713000345838202 : True := trivial
theorem Mine.done.tw4441453945221264179 : True := trivial
theorem Mine.done.tw5655865672857253353 : True := trivial
theorem Mine.done.tw15389523390066937716 : True := trivial
theorem Mine.done.tw15140660254787476336 : True := trivial
theorem Mine.done.tw8454499956841987227 : True := trivial
theorem Mine.done.tw9604369433208304839 : True := trivial
theorem Mine.done.tw6456961752588181708 : True := trivial
theorem Mine.done.tw15676414667055008889 : True := trivial
theorem Mine.done.tw7485537039750025173 : True := trivial
theorem Mine.done.tw4069617430634930670 : True := trivial
theorem Mine.done.tw14910885868544568119 : True := trivial
theorem Mine.done.tw12826427925826465549 : True := trivial
theorem Mine.done.tw2903233869175055412 : True := trivial
theorem Mine.done.tw12192983946477410388 : True := trivial
theorem Mine.done.tw5177171209985491087 : True := trivial
theorem Mine.done.tw13543035609537072398 : True := trivial
theorem Mine.done.tw11176851481488247127 : True := trivial
theorem Mine.done.tw13042260608223075909 : True := trivial
theorem Mine.done.tw18212187886773813927 : True := trivial
theorem Mine.done.tw11182745928472645867 : True := trivial
theorem Mine.done.tw1799479513796253045 : True := trivial
theorem Mine.done.tw5704972337919735139 : True := trivial
theorem Mine.done.tw9616810207116043106 : True := trivial
theorem Mine.done.tw13295624391194137081 : True := trivial
theorem Mine.done.tw14628085605244887573 : True := trivial
theorem Mine.done.tw11968074866965014026 : True := trivial
theorem Mine.done.tw5109959311982630658 : True := trivial
theorem Mine.done.tw12416680884183005349 : True := trivial
theorem Mine.done.tw15781167348565819680 : True := trivial
theorem Mine.done.tw6378850878172883522 : True := trivial
theorem Mine.done.tw9082082261113860556 : True := trivial
theorem Mine.done.tw12538903958677098640 : True := trivial
theorem Mine.done.tw5874641582312891884 : True := trivial
theorem Mine.done.tw17178153198620024524 : True := trivial
theorem Mine.done.tw18060165074905825314 : True := trivial
theorem Mine.done.tw5994691530079606138 : True := trivial
theorem Mine.done.tw1387218516506721700 : True := trivial
theorem Mine.done.tw10019854353132446339 : True := trivial
theorem Mine.done.tw4681207969683258973 : True := trivial
theorem Mine.done.tw7544553475137262583 : True := trivial
theorem Mine.done.tw4340203805643736196 : True := trivial
theorem Mine.done.tw4181357303607911132 : True := trivial
theorem Mine.done.tw1073010615748241428 : True := trivial
theorem Mine.done.tw8136419720126061344 : True := trivial
theorem Mine.done.tw11517217944112719813 : True := trivial
theorem Mine.done.tw8291341039276858771 : True := trivial
theorem Mine.done.tw14191584067907419509 : True := trivial
theorem Mine.done.tw17334131167868905823 : True := trivial
theorem Mine.done.tw10414554209721914283 : True := trivial
theorem Mine.done.tw11756834381361342546 : True := trivial
theorem Mine.done.tw7219691274749568155 : True := trivial
theorem Mine.done.tw16154752414967722671 : True := trivial
theorem Mine.done.tw16955253406551204679 : True := trivial
theorem Mine.done.tw18241810283815402612 : True := trivial
theorem Mine.done.tw10461514857438328744 : True := trivial
theorem Mine.done.tw4614847347010115002 : True := trivial
theorem Mine.done.tw4390950799042198670 : True := trivial
theorem Mine.done.tw2204695671885213667 : True := trivial
theorem Mine.done.tw8413670849005779972 : True := trivial
theorem Mine.done.tw10340826282517785833 : True := trivial
theorem Mine.done.tw17641846527527964228 : True := trivial
theorem Mine.done.tw17972762153631306975 : True := trivial
theorem Mine.done.tw15770490836978191227 : True := trivial
theorem Mine.done.tw11111841655894291293 : True := trivial
theorem Mine.done.tw10569306408706788642 : True := trivial
theorem Mine.done.tw17575340877245861128 : True := trivial
theorem Mine.done.tw10567925171480008116 : True := trivial
theorem Mine.done.tw17238323260583790726 : True := trivial
theorem Mine.done.tw14357949487066652895 : True := trivial
theorem Mine.done.tw7578856259185740113 : True := trivial
theorem Mine.done.tw5486933145081476985 : True := trivial
theorem Mine.done.tw17024126147442225529 : True := trivial
theorem Mine.done.tw5337812396086975548 : True := trivial
theorem Mine.done.tw16174952163783540405 : True := trivial
theorem Mine.done.tw9002232154031390307 : True := trivial
theorem Mine.done.tw16243264273399456464 : True := trivial
theorem Mine.done.tw9721382793133609643 : True := trivial
theorem Mine.done.tw9200832997848485456 : True := trivial
theorem Mine.done.tw12584004596973183959 : True := trivial
theorem Mine.done.tw16252008840258203186 : True := trivial
theorem Mine.done.tw8034674651607850551 : True := trivial
theorem Mine.done.tw13623739562088245353 : True := trivial
theorem Mine.done.tw14232698860256810306 : True := trivial
theorem Mine.done.tw9002735692777779705 : True := trivial
theorem Mine.done.tw7308304870915010446 : True := trivial
theorem Mine.done.tw4371424871768620251 : True := trivial
theorem Mine.done.tw14090847894627348178 : True := trivial
theorem Mine.done.tw11973444456321720913 : True := trivial
theorem Mine.done.tw17700221332131974954 : True := trivial
theorem Mine.done.tw17959870166413917161 : True := trivial
theorem Mine.done.tw5740245215079663407 : True := trivial
theorem Mine.done.tw8241216996002961814 : True := trivial
theorem Mine.done.tw3172942232197200451 : True := trivial
theorem Mine.done.tw16521372204988916085 : True := trivial
theorem Mine.done.tw186923480698476084 : True := trivial
theorem Mine.done.tw240947661354898908 : True := trivial
theorem Mine.done.tw14294723903232733152 : True := trivial
theorem Mine.done.tw5163799480758430583 : True := trivial
theorem Mine.done.tw6847433135889040820 : True := trivial
theorem Mine.done.tw18411958307181649640 : True := trivial
theorem Mine.done.tw4211398525809969616 : True := trivial
theorem Mine.done.tw9588200125539056718 : True := trivial
theorem Mine.done.tw10519556252083900055 : True := trivial
theorem Mine.done.tw12557625500346125963 : True := trivial
theorem Mine.done.tw4677112880752731614 : True := trivial
theorem Mine.done.tw10001608590866938956 : True := trivial
theorem Mine.done.tw12104206187040942192 : True := trivial
theorem Mine.done.tw1779572454524917227 : True := trivial
theorem Mine.done.tw16731647082517531666 : True := trivial
theorem Mine.done.tw14929142674522358299 : True := trivial
theorem Mine.done.tw770775570898558370 : True := trivial
theorem Mine.done.tw9981328117848839211 : True := trivial
theorem Mine.done.tw6112662981795224775 : True := trivial
theorem Mine.done.tw16506703466569874858 : True := trivial
theorem Mine.done.tw17932656210409772230 : True := trivial
theorem Mine.done.tw11612523272261642296 : True := trivial
theorem Mine.done.tw15035504196503590640 : True := trivial
theorem Mine.done.tw6138739469763182012 : True := trivial
theorem Mine.done.tw16065440898386463636 : True := trivial
theorem Mine.done.tw277478311049804128 : True := trivial
theorem Mine.done.tw6346660697564374096 : True := trivial
theorem Mine.done.tw17705184277218629206 : True := trivial
theorem Mine.done.tw10464448038071463486 : True := trivial
theorem Mine.done.tw11222862953792789569 : True := trivial
theorem Mine.done.tw8099643783685747229 : True := trivial
theorem Mine.done.tw8352890819835368330 : True := trivial
theorem Mine.done.tw14624030845542118275 : True := trivial
theorem Mine.done.tw7026145500966216032 : True := trivial
theorem Mine.done.tw16331308036475126069 : True := trivial
theorem Mine.done.tw16713665708125680636 : True := trivial
theorem Mine.done.tw16728268649604645721 : True := trivial
theorem Mine.done.tw5727653512263842881 : True := trivial
theorem Mine.done.tw16059992843568243997 : True := trivial
theorem Mine.done.tw6104075218299796094 : True := trivial
theorem Mine.done.tw5855030270273515364 : True := trivial
theorem Mine.done.tw13860812051094193527 : True := trivial
theorem Mine.done.tw5308596643121092656 : True := trivial
theorem Mine.done.tw12455131684600414819 : True := trivial
theorem Mine.done.tw5636623162612542154 : True := trivial
theorem Mine.done.tw15147395537981873787 : True := trivial
theorem Mine.done.tw12590618073661776778 : True := trivial
theorem Mine.done.tw1807195333710500789 : True := trivial
theorem Mine.done.tw14686111559132870250 : True := trivial
theorem Mine.done.tw14727811315847389289 : True := trivial
theorem Mine.done.tw2775654496281055774 : True := trivial
theorem Mine.done.tw7704818001671915680 : True := trivial
theorem Mine.done.tw9549460202510559742 : True := trivial
theorem Mine.done.tw13330548514816302292 : True := trivial
theorem Mine.done.tw16751948349436235364 : True := trivial
theorem Mine.done.tw12435224044876331125 : True := trivial
theorem Mine.done.tw15790946784527951829 : True := trivial
theorem Mine.done.tw4363546091867521770 : True := trivial
theorem Mine.done.tw2159345836887792309 : True := trivial
theorem Mine.done.tw6862051998844977033 : True := trivial
theorem Mine.done.tw16480252708133398731 : True := trivial
theorem Mine.done.tw14996354426756322 : True := trivial
theorem Mine.done.tw3886591309129163119 : True := trivial
theorem Mine.done.tw9105751256235887541 : True := trivial
theorem Mine.done.tw16014734918975077792 : True := trivial
theorem Mine.done.tw17182896771315365433 : True := trivial
theorem Mine.done.tw13320845441641606026 : True := trivial
theorem Mine.done.tw1111915813369078415 : True := trivial
theorem Mine.done.tw16103521562633827499 : True := trivial
theorem Mine.done.tw6579388149672542738 : True := trivial
theorem Mine.done.tw5910097994349131606 : True := trivial
theorem Mine.done.tw8128412932154248688 : True := trivial
theorem Mine.done.tw2941651216188740148 : True := trivial
theorem Mine.done.tw452317586002034111 : True := trivial
theorem Mine.done.tw12261990227722131469 : True := trivial
theorem Mine.done.tw13360666788881177999 : True := trivial
theorem Mine.done.tw6732266626607513426 : True := trivial
theorem Mine.done.tw17786679127395532640 : True := trivial
theorem Mine.done.tw15654891071749742660 : True := trivial
theorem Mine.done.tw3771950721240843731 : True := trivial
theorem Mine.done.tw5430336918291174479 : True := trivial
theorem Mine.done.tw15551315277526892393 : True := trivial
theorem Mine.done.tw851111829511197566 : True := trivial
theorem Mine.done.tw9767320568237952497 : True := trivial
theorem Mine.done.tw16075529590378842364 : True := trivial
theorem Mine.done.tw16241098998449367331 : True := trivial
theorem Mine.done.tw1361245793065984309 : True := trivial
theorem Mine.done.tw1004953723723245701 : True := trivial
theorem Mine.done.tw16258534259340715125 : True := trivial
theorem Mine.done.tw17674686917803920512 : True := trivial
theorem Mine.done.tw611284476545969566 : True := trivial
theorem Mine.done.tw14724970475255253335 : True := trivial
theorem Mine.done.tw13477373841576048953 : True := trivial
theorem Mine.done.tw1491073964377564908 : True := trivial
theorem Mine.done.tw6428067177402504095 : True := trivial
theorem Mine.done.tw16308793381629181640 : True := trivial
theorem Mine.done.tw9654541919273856279 : True := trivial
theorem Mine.done.tw7369570324842748534 : True := trivial
theorem Mine.done.tw9125037490761206420 : True := trivial
theorem Mine.done.tw3064317300360822491 : True := trivial
theorem Mine.done.tw9938496921706107635 : True := trivial
theorem Mine.done.tw10219737971177383041 : True := trivial
theorem Mine.done.tw18021066714489648923 : True := trivial
theorem Mine.done.tw842550061945680236 : True := trivial
theorem Mine.done.tw5463159061199875603 : True := trivial
theorem Mine.done.tw14212142817177639537 : True := trivial
theorem Mine.done.tw12187485137842568634 : True := trivial
theorem Mine.done.tw10531998415398034732 : True := trivial
theorem Mine.done.tw1621148594216042016 : True := trivial
theorem Mine.done.tw16716109483063422806 : True := trivial
theorem Mine.done.tw1634596822949166983 : True := trivial
theorem Mine.done.tw15356296589650158886 : True := trivial
theorem Mine.done.tw1931929382792803703 : True := trivial
theorem Mine.done.tw7054481960319414563 : True := trivial
theorem Mine.done.tw1523198943094491455 : True := trivial
theorem Mine.done.tw6730356274847402533 : True := trivial
theorem Mine.done.tw16501998958149795962 : True := trivial
theorem Mine.done.tw14824031545536361834 : True := trivial
theorem Mine.done.tw1026475781547055298 : True := trivial
theorem Mine.done.tw14803316933666438898 : True := trivial
theorem Mine.done.tw12276378288977350813 : True := trivial
theorem Mine.done.tw903621511569091667 : True := trivial
theorem Mine.done.tw3708041127174666161 : True := trivial
theorem Mine.done.tw10884325419430863467 : True := trivial
theorem Mine.done.tw4489754856939938668 : True := trivial
theorem Mine.done.tw5901133776652194399 : True := trivial
theorem Mine.done.tw4039714909443928462 : True := trivial
theorem Mine.done.tw17489215536864373204 : True := trivial
theorem Mine.done.tw1422274939239221808 : True := trivial
theorem Mine.done.tw21312451445778516 : True := trivial
theorem Mine.done.tw8502932247667616858 : True := trivial
theorem Mine.done.tw6078097712387470635 : True := trivial
theorem Mine.done.tw735547975742170898 : True := trivial
theorem Mine.done.tw12053873261031070653 : True := trivial
theorem Mine.done.tw2073144683750966396 : True := trivial
theorem Mine.done.tw6193923610728507558 : True := trivial
theorem Mine.done.tw11461688451146421600 : True := trivial
theorem Mine.done.tw11160262194446256363 : True := trivial
theorem Mine.done.tw14669047612001268111 : True := trivial
theorem Mine.done.tw16858906093748812846 : True := trivial
theorem Mine.done.tw17839035553733939720 : True := trivial
theorem Mine.done.tw1213188665079859367 : True := trivial
theorem Mine.done.tw7824079042950002492 : True := trivial
theorem Mine.done.tw801842834897422259 : True := trivial
theorem Mine.done.tw15005347822197988282 : True := trivial
theorem Mine.done.tw15905834601786187450 : True := trivial
theorem Mine.done.tw9762112706638188880 : True := trivial
theorem Mine.done.tw11245500841691864326 : True := trivial
theorem Mine.done.tw16651704939868678077 : True := trivial
theorem Mine.done.tw10752990523018224084 : True := trivial
theorem Mine.done.tw8780030841906560203 : True := trivial
theorem Mine.done.tw16998175946917702510 : True := trivial
theorem Mine.done.tw10338178405125514066 : True := trivial
theorem Mine.done.tw1368976326800631844 : True := trivial
theorem Mine.done.tw5187517375057645831 : True := trivial
theorem Mine.done.tw8662616782197908488 : True := trivial
theorem Mine.done.tw2506644288289062560 : True := trivial
theorem Mine.done.tw9854544433400197644 : True := trivial
theorem Mine.done.tw3670852546286800459 : True := trivial
theorem Mine.done.tw16119034506201796086 : True := trivial
theorem Mine.done.tw8019265307292026921 : True := trivial
theorem Mine.done.tw2409583768304795901 : True := trivial
theorem Mine.done.tw11955963394485803948 : True := trivial
theorem Mine.done.tw10777224112655048187 : True := trivial
theorem Mine.done.tw14923756792153093005 : True := trivial
theorem Mine.done.tw837971897345966376 : True := trivial
theorem Mine.done.tw14888529169196622660 : True := trivial
theorem Mine.done.tw8447518883073161350 : True := trivial
theorem Mine.done.tw1584417941507057156 : True := trivial
theorem Mine.done.tw7094966989384090678 : True := trivial
theorem Mine.done.tw11345091733332262137 : True := trivial
theorem Mine.done.tw5774576928107526182 : True := trivial
theorem Mine.done.tw9615955285834855801 : True := trivial
theorem Mine.done.tw15737506614702577927 : True := trivial
theorem Mine.done.tw11638191348629210492 : True := trivial
theorem Mine.done.tw10025300989885658744 : True := trivial
theorem Mine.done.tw17801289264579540458 : True := trivial
theorem Mine.done.tw12772389966509551140 : True := trivial
theorem Mine.done.tw9233120107311841211 : True := trivial
theorem Mine.done.tw5336055245676694369 : True := trivial
theorem Mine.done.tw8158154775021104423 : True := trivial
theorem Mine.done.tw11351436073898192078 : True := trivial
theorem Mine.done.tw17460046742771504584 : True := trivial
theorem Mine.done.tw10607236001181589127 : True := trivial
theorem Mine.done.tw2984097688314418705 : True := trivial
theorem Mine.done.tw17330019027331974476 : True := trivial
theorem Mine.done.tw6310582918045232305 : True := trivial
theorem Mine.done.tw15286711057775674551 : True := trivial
theorem Mine.done.tw16292729820224670935 : True := trivial
theorem Mine.done.tw12150964968865422876 : True := trivial
theorem Mine.done.tw9561832750461018340 : True := trivial
theorem Mine.done.tw6011725871932481555 : True := trivial
theorem Mine.done.tw12471889701438995751 : True := trivial
theorem Mine.done.tw11323379376450821651 : True := trivial
theorem Mine.done.tw3687437988204244319 : True := trivial
theorem Mine.done.tw15712817056842768213 : True := trivial
theorem Mine.done.tw8014344435455328427 : True := trivial
theorem Mine.done.tw8125177856891224697 : True := trivial
theorem Mine.done.tw14066735673533199643 : True := trivial
theorem Mine.done.tw5166138438508047283 : True := trivial
theorem Mine.done.tw11694175540406736435 : True := trivial
theorem Mine.done.tw14230020431775052614 : True := trivial
theorem Mine.done.tw6064706311049807231 : True := trivial
theorem Mine.done.tw8127988870487804646 : True := trivial
theorem Mine.done.tw6078479704571833126 : True := trivial
theorem Mine.done.tw12181921455978088575 : True := trivial
theorem Mine.done.tw7843763320829035543 : True := trivial
theorem Mine.done.tw10930625849091763863 : True := trivial
theorem Mine.done.tw17520505274978414471 : True := trivial
theorem Mine.done.tw211519354877625900 : True := trivial
theorem Mine.done.tw5670577850929709262 : True := trivial
theorem Mine.done.tw12791347686210767137 : True := trivial
theorem Mine.done.tw12933556624308428065 : True := trivial
theorem Mine.done.tw5273981244022015388 : True := trivial
theorem Mine.done.tw9512111693860777348 : True := trivial
theorem Mine.done.tw916967263863654791 : True := trivial
theorem Mine.done.tw13632195403429841543 : True := trivial
theorem Mine.done.tw4261720265946297377 : True := trivial
theorem Mine.done.tw16023923085292786753 : True := trivial
theorem Mine.done.tw10656512184525467177 : True := trivial
theorem Mine.done.tw2778382171282172602 : True := trivial
theorem Mine.done.tw15651960340667375365 : True := trivial
theorem Mine.done.tw10076744139105603404 : True := trivial
theorem Mine.done.tw2699243054319354133 : True := trivial
theorem Mine.done.tw6838145515471893770 : True := trivial
theorem Mine.done.tw17863744951511463400 : True := trivial
theorem Mine.done.tw18397174403909394766 : True := trivial
theorem Mine.done.tw12803487701390229869 : True := trivial
theorem Mine.done.tw17544526328870205916 : True := trivial
theorem Mine.done.tw6199144183696770493 : True := trivial
theorem Mine.done.tw14614511867759320553 : True := trivial
theorem Mine.done.tw16539702725102312948 : True := trivial
theorem Mine.done.tw9684972813480719824 : True := trivial
theorem Mine.done.tw9594290103316302497 : True := trivial
theorem Mine.done.tw14135019018288840236 : True := trivial
theorem Mine.done.tw13603141334991091918 : True := trivial
theorem Mine.done.tw1910030314014021555 : True := trivial
theorem Mine.done.tw1404793756691349590 : True := trivial
theorem Mine.done.tw833791165865775475 : True := trivial
theorem Mine.done.tw14850945078173008862 : True := trivial
theorem Mine.done.tw4567454145779755315 : True := trivial
theorem Mine.done.tw12140298303312686616 : True := trivial
theorem Mine.done.tw6081167222938358281 : True := trivial
theorem Mine.done.tw17599767497268339158 : True := trivial
theorem Mine.done.tw14510786860291549598 : True := trivial
theorem Mine.done.tw7174089811228097969 : True := trivial
theorem Mine.done.tw3930551529052950380 : True := trivial
theorem Mine.done.tw11033987824988735037 : True := trivial
theorem Mine.done.tw12309728223976907082 : True := trivial
theorem Mine.done.tw10567450272285105143 : True := trivial
theorem Mine.done.tw17998253533007320462 : True := trivial
theorem Mine.done.tw254585392018228578 : True := trivial
theorem Mine.done.tw6517757147287045581 : True := trivial
theorem Mine.done.tw13280758769328095591 : True := trivial
theorem Mine.done.tw10340649319332938884 : True := trivial
theorem Mine.done.tw13915439136933654446 : True := trivial
theorem Mine.done.tw10695868010527625073 : True := trivial
theorem Mine.done.tw3821884381206121203 : True := trivial
theorem Mine.done.tw8002469063098984595 : True := trivial
theorem Mine.done.tw17023240410625133231 : True := trivial
theorem Mine.done.tw14827827738412955555 : True := trivial
theorem Mine.done.tw8541870636678571179 : True := trivial
theorem Mine.done.tw1334771273780935496 : True := trivial
theorem Mine.done.tw12396144542274271459 : True := trivial
theorem Mine.done.tw12931523897097591886 : True := trivial
theorem Mine.done.tw10840995816752748980 : True := trivial
theorem Mine.done.tw11010495265058716436 : True := trivial
theorem Mine.done.tw13600024598796611610 : True := trivial
theorem Mine.done.tw8719843987682477869 : True := trivial
theorem Mine.done.tw4431377723510763577 : True := trivial
theorem Mine.done.tw8140136691870044134 : True := trivial
theorem Mine.done.tw8118521464831001709 : True := trivial
theorem Mine.done.tw5824063184697290265 : True := trivial
theorem Mine.done.tw2980717215143025292 : True := trivial
theorem Mine.done.tw15294864764464390392 : True := trivial
theorem Mine.done.tw7071165691106869611 : True := trivial
theorem Mine.done.tw9256663447445984807 : True := trivial
theorem Mine.done.tw15018005345138887192 : True := trivial
theorem Mine.done.tw3085727104491462481 : True := trivial
theorem Mine.done.tw11455775315996134748 : True := trivial
theorem Mine.done.tw6955830403229466144 : True := trivial
theorem Mine.done.tw17235130029448080741 : True := trivial
theorem Mine.done.tw12196642898518322009 : True := trivial
theorem Mine.done.tw5583786676799517998 : True := trivial
theorem Mine.done.tw9098064571406306581 : True := trivial
theorem Mine.done.tw15406314271245058175 : True := trivial
theorem Mine.done.tw16903806304684164369 : True := trivial
theorem Mine.done.tw13366286052248184801 : True := trivial
theorem Mine.done.tw17301234568438585448 : True := trivial
theorem Mine.done.tw18383424097777797573 : True := trivial
theorem Mine.done.tw13175522585819960889 : True := trivial
theorem Mine.done.tw7074032524562923348 : True := trivial
theorem Mine.done.tw10802973483027504802 : True := trivial
theorem Mine.done.tw11737753794469321246 : True := trivial
theorem Mine.done.tw9487701290555141013 : True := trivial
theorem Mine.done.tw11274442399748905258 : True := trivial
theorem Mine.done.tw4558159055401234901 : True := trivial
theorem Mine.done.tw13687019670976285272 : True := trivial
theorem Mine.done.tw5423752804249988591 : True := trivial
theorem Mine.done.tw11972679087831969322 : True := trivial
theorem Mine.done.tw14162990962709121327 : True := trivial
theorem Mine.done.tw4358143513922711309 : True := trivial
theorem Mine.done.tw8876352906585486866 : True := trivial
theorem Mine.done.tw11493025025106522388 : True := trivial
theorem Mine.done.tw2391237169087842302 : True := trivial
theorem Mine.done.tw8846275388622459306 : True := trivial
theorem Mine.done.tw12402792975476947383 : True := trivial
theorem Mine.done.tw3278805679984782594 : True := trivial
theorem Mine.done.tw2303542578999277557 : True := trivial
theorem Mine.done.tw6639836130593412370 : True := trivial
theorem Mine.done.tw12139568803300056482 : True := trivial
theorem Mine.done.tw8029827341499782733 : True := trivial
theorem Mine.done.tw7460882469660507323 : True := trivial
theorem Mine.done.tw8334664143804637769 : True := trivial
theorem Mine.done.tw10345129082173045858 : True := trivial
theorem Mine.done.tw17085905826304716577 : True := trivial
theorem Mine.done.tw10530201749110319435 : True := trivial
theorem Mine.done.tw14508808502895914235 : True := trivial
theorem Mine.done.tw13334580725663002868 : True := trivial
theorem Mine.done.tw7608886840485446383 : True := trivial
theorem Mine.done.tw9775911770346100502 : True := trivial
theorem Mine.done.tw8041053019819486780 : True := trivial
theorem Mine.done.tw1354732557263434016 : True := trivial
theorem Mine.done.tw15862825773322824051 : True := trivial
theorem Mine.done.tw13746502918610588405 : True := trivial
theorem Mine.done.tw15523930176445142933 : True := trivial
theorem Mine.done.tw12697526799971008881 : True := trivial
theorem Mine.done.tw5767090476229501230 : True := trivial
theorem Mine.done.tw10218592291755259122 : True := trivial
theorem Mine.done.tw8684003373423081485 : True := trivial
theorem Mine.done.tw2564174734752345629 : True := trivial
theorem Mine.done.tw8846668841605936124 : True := trivial
theorem Mine.done.tw6268885211619548602 : True := trivial
theorem Mine.done.tw1765164728353696829 : True := trivial
theorem Mine.done.tw216694695596516424 : True := trivial
theorem Mine.done.tw13564920663418988718 : True := trivial
theorem Mine.done.tw15050698189327644958 : True := trivial
theorem Mine.done.tw4198932103666918875 : True := trivial
theorem Mine.done.tw10293213463986935938 : True := trivial
theorem Mine.done.tw3804212251390791123 : True := trivial
theorem Mine.done.tw18144951200076131832 : True := trivial
theorem Mine.done.tw16201966780865888828 : True := trivial
theorem Mine.done.tw15819346171560818171 : True := trivial
theorem Mine.done.tw11604717862522250870 : True := trivial
theorem Mine.done.tw14800897848065691837 : True := trivial
theorem Mine.done.tw3311734107614465389 : True := trivial
theorem Mine.done.tw6572195164552557345 : True := trivial
theorem Mine.done.tw3792698908086720687 : True := trivial
theorem Mine.done.tw2807271673182603479 : True := trivial
theorem Mine.done.tw2750548681339117019 : True := trivial
theorem Mine.done.tw14254274074798032728 : True := trivial
theorem Mine.done.tw158704072734832576 : True := trivial
theorem Mine.done.tw7946930972422737194 : True := trivial
theorem Mine.done.tw7770448083902570439 : True := trivial
theorem Mine.done.tw17612664470219786868 : True := trivial
theorem Mine.done.tw653390472302839629 : True := trivial
theorem Mine.done.tw8634590124881903147 : True := trivial
theorem Mine.done.tw17211111669219835721 : True := trivial
theorem Mine.done.tw12506618022298501431 : True := trivial
theorem Mine.done.tw5901505822248350664 : True := trivial
theorem Mine.done.tw1090272117668541505 : True := trivial
theorem Mine.done.tw11054969681736023869 : True := trivial
theorem Mine.done.tw4812206199027656126 : True := trivial
theorem Mine.done.tw9137767751723552088 : True := trivial
theorem Mine.done.tw17406551496100808723 : True := trivial
theorem Mine.done.tw583951762540550130 : True := trivial
theorem Mine.done.tw8793424612762124695 : True := trivial
theorem Mine.done.tw10993683544028236657 : True := trivial
theorem Mine.done.tw16814751413655002053 : True := trivial
theorem Mine.done.tw10959517487216315652 : True := trivial
theorem Mine.done.tw19258574957685239 : True := trivial
theorem Mine.done.tw9288701532482652717 : True := trivial
theorem Mine.done.tw13613311183423051054 : True := trivial
theorem Mine.done.tw7353229167641784014 : True := trivial
theorem Mine.done.tw6506157000777126211 : True := trivial
theorem Mine.done.tw14384236073857311361 : True := trivial
theorem Mine.done.tw12033715515769761024 : True := trivial
theorem Mine.done.tw18241650193658861493 : True := trivial
theorem Mine.done.tw17335713061768046273 : True := trivial
theorem Mine.done.tw3890481579076500564 : True := trivial
theorem Mine.done.tw2210229826428290956 : True := trivial
theorem Mine.done.tw14775804154235063792 : True := trivial
theorem Mine.done.tw7068440693642000179 : True := trivial
theorem Mine.done.tw6122372405140469599 : True := trivial
theorem Mine.done.tw15820007489221099963 : True := trivial
theorem Mine.done.tw1559955899319261915 : True := trivial
theorem Mine.done.tw2099987030181931231 : True := trivial
theorem Mine.done.tw397987297704023544 : True := trivial
theorem Mine.done.tw7976209783961466820 : True := trivial
theorem Mine.done.tw891080717563743061 : True := trivial
theorem Mine.done.tw18356370018070181574 : True := trivial
theorem Mine.done.tw9148110642403760132 : True := trivial
theorem Mine.done.tw13660396087281185655 : True := trivial
theorem Mine.done.tw15043049221320713722 : True := trivial
theorem Mine.done.tw13661078321741541031 : True := trivial
theorem Mine.done.tw7509697689094504113 : True := trivial
theorem Mine.done.tw499437284187608367 : True := trivial
theorem Mine.done.tw5924767014480254565 : True := trivial
theorem Mine.done.tw2753069006118921766 : True := trivial
theorem Mine.done.tw400809499448696123 : True := trivial
theorem Mine.done.tw12236148456791783129 : True := trivial
theorem Mine.done.tw1594802651824187265 : True := trivial
theorem Mine.done.tw12410491178028488977 : True := trivial
theorem Mine.done.tw4459393952658316173 : True := trivial
theorem Mine.done.tw3342788529842250437 : True := trivial
theorem Mine.done.tw12033945918932754715 : True := trivial
theorem Mine.done.tw11169472042609987875 : True := trivial
theorem Mine.done.tw6393760034276485899 : True := trivial
theorem Mine.done.tw4871362745457613685 : True := trivial
theorem Mine.done.tw13484415887666274118 : True := trivial
theorem Mine.done.tw4577299858499866809 : True := trivial
theorem Mine.done.tw17145810654522891716 : True := trivial
theorem Mine.done.tw11865403748142481953 : True := trivial
theorem Mine.done.tw9755438271864007172 : True := trivial
theorem Mine.done.tw4481659748796226416 : True := trivial
theorem Mine.done.tw13016878125671562381 : True := trivial
theorem Mine.done.tw13042757566158297434 : True := trivial
theorem Mine.done.tw3123987347669141295 : True := trivial
theorem Mine.done.tw14356886610325478579 : True := trivial
theorem Mine.done.tw18003592506420593430 : True := trivial
theorem Mine.done.tw12009680585757043944 : True := trivial
theorem Mine.done.tw2352568245078828102 : True := trivial
theorem Mine.done.tw16386215446056342918 : True := trivial
theorem Mine.done.tw7206163515830759026 : True := trivial
theorem Mine.done.tw7667928020978668946 : True := trivial
theorem Mine.done.tw1394829382731198025 : True := trivial
theorem Mine.done.tw1537179190601598235 : True := trivial
theorem Mine.done.tw18083400374225782217 : True := trivial
theorem Mine.done.tw12215930122075219942 : True := trivial
theorem Mine.done.tw5327417717568865494 : True := trivial
theorem Mine.done.tw7573363647798995289 : True := trivial
theorem Mine.done.tw2405922928536467554 : True := trivial
theorem Mine.done.tw727141296781842337 : True := trivial
theorem Mine.done.tw14353955771789238784 : True := trivial
theorem Mine.done.tw14890327943125848368 : True := trivial
theorem Mine.done.tw14336866038783021728 : True := trivial
theorem Mine.done.tw10983387978149229785 : True := trivial
theorem Mine.done.tw15940407786999460603 : True := trivial
theorem Mine.done.tw10703909809155217943 : True := trivial
theorem Mine.done.tw2110974784818188537 : True := trivial
theorem Mine.done.tw3789276164574578820 : True := trivial
theorem Mine.done.tw6439124207637965352 : True := trivial
theorem Mine.done.tw13830442620870439865 : True := trivial
theorem Mine.done.tw16263384995865976315 : True := trivial
theorem Mine.done.tw11753123033881237492 : True := trivial
theorem Mine.done.tw14554549091284839902 : True := trivial
theorem Mine.done.tw2037974490924396950 : True := trivial
theorem Mine.done.tw17716581473322479906 : True := trivial
theorem Mine.done.tw7840475345951533789 : True := trivial
theorem Mine.done.tw1934847328882049738 : True := trivial
theorem Mine.done.tw5080394293813083258 : True := trivial
theorem Mine.done.tw11581173601829365834 : True := trivial
theorem Mine.done.tw3139755502545741970 : True := trivial
theorem Mine.done.tw16026163753272691763 : True := trivial
theorem Mine.done.tw5163548188661864052 : True := trivial
theorem Mine.done.tw12576759235751262173 : True := trivial
theorem Mine.done.tw5631565283530062566 : True := trivial
theorem Mine.done.tw5348045734337014899 : True := trivial
theorem Mine.done.tw16741380207248803575 : True := trivial
theorem Mine.done.tw17686044130693432662 : True := trivial
theorem Mine.done.tw3877023429644124756 : True := trivial
theorem Mine.done.tw13219211033809570723 : True := trivial
theorem Mine.done.tw18419770029293482934 : True := trivial
theorem Mine.done.tw7856593996763885259 : True := trivial
theorem Mine.done.tw16420940023456872164 : True := trivial
theorem Mine.done.tw2823271696565371092 : True := trivial
theorem Mine.done.tw4228361069453819743 : True := trivial
theorem Mine.done.tw1161901928643089294 : True := trivial
theorem Mine.done.tw2205322183139402309 : True := trivial
theorem Mine.done.tw6454164159098274062 : True := trivial
theorem Mine.done.tw17428491858999636762 : True := trivial
theorem Mine.done.tw5470102153109135685 : True := trivial
theorem Mine.done.tw1638023235579033478 : True := trivial
theorem Mine.done.tw3096454073244684707 : True := trivial
theorem Mine.done.tw676345292528810505 : True := trivial
theorem Mine.done.tw5870503745014429783 : True := trivial
theorem Mine.done.tw10270907373851806918 : True := trivial
theorem Mine.done.tw2652851482812960495 : True := trivial
theorem Mine.done.tw10765724144556914657 : True := trivial
theorem Mine.done.tw2204245026236817197 : True := trivial
theorem Mine.done.tw9451739297632445973 : True := trivial
theorem Mine.done.tw4872680211480115073 : True := trivial
theorem Mine.done.tw8436768605030998781 : True := trivial
theorem Mine.done.tw12237165644037348664 : True := trivial
theorem Mine.done.tw14617783638575873450 : True := trivial
theorem Mine.done.tw4518423913843735719 : True := trivial
theorem Mine.done.tw17107926585549627723 : True := trivial
theorem Mine.done.tw8750981672813074834 : True := trivial
theorem Mine.done.tw5838601938789372160 : True := trivial
theorem Mine.done.tw4313352459379265084 : True := trivial
theorem Mine.done.tw8966744824270809742 : True := trivial
theorem Mine.done.tw771236242276230786 : True := trivial
theorem Mine.done.tw9272227222886651331 : True := trivial
theorem Mine.done.tw18372162902356280109 : True := trivial
theorem Mine.done.tw11263036797113582689 : True := trivial
theorem Mine.done.tw4441599409602201774 : True := trivial
theorem Mine.done.tw12904893371141771401 : True := trivial
theorem Mine.done.tw5485893362229104696 : True := trivial
theorem Mine.done.tw7179619881340947462 : True := trivial
theorem Mine.done.tw7380919146522496085 : True := trivial
theorem Mine.done.tw13802977417310768300 : True := trivial
theorem Mine.done.tw16323600083571012228 : True := trivial
theorem Mine.done.tw14220574640832520287 : True := trivial
theorem Mine.done.tw5248735422516172121 : True := trivial
theorem Mine.done.tw15720724898943526602 : True := trivial
theorem Mine.done.tw9190303498446906335 : True := trivial
theorem Mine.done.tw5507114221953486357 : True := trivial
theorem Mine.done.tw9998404304134204429 : True := trivial
theorem Mine.done.tw11010336435486309517 : True := trivial
theorem Mine.done.tw16077934587839836270 : True := trivial
theorem Mine.done.tw10619696357085184484 : True := trivial
theorem Mine.done.tw9231694569168953690 : True := trivial
theorem Mine.done.tw4968099571341984837 : True := trivial
theorem Mine.done.tw13888848648069341426 : True := trivial
theorem Mine.done.tw14161337878176459303 : True := trivial
theorem Mine.done.tw4659867975284671993 : True := trivial
theorem Mine.done.tw6219592234566021224 : True := trivial
theorem Mine.done.tw6418884066973554070 : True := trivial
theorem Mine.done.tw13999396814589789315 : True := trivial
theorem Mine.done.tw11458131271705767938 : True := trivial
theorem Mine.done.tw4315511084340469073 : True := trivial
theorem Mine.done.tw16301494292402742297 : True := trivial
theorem Mine.done.tw10378163598108883929 : True := trivial
theorem Mine.done.tw14515629685779604640 : True := trivial
theorem Mine.done.tw13352025843679170660 : True := trivial
theorem Mine.done.tw15404893121221724210 : True := trivial
theorem Mine.done.tw6484336742140584752 : True := trivial
theorem Mine.done.tw694898112605375748 : True := trivial
theorem Mine.done.tw13484711214389887804 : True := trivial
theorem Mine.done.tw5040821347747032528 : True := trivial
theorem Mine.done.tw6607458958616429909 : True := trivial
theorem Mine.done.tw11012882198018816725 : True := trivial
theorem Mine.done.tw9367151652503474609 : True := trivial
theorem Mine.done.tw2138506218473547707 : True := trivial
theorem Mine.done.tw11117369115691400365 : True := trivial
theorem Mine.done.tw16684258405126186935 : True := trivial
theorem Mine.done.tw13837002107138608008 : True := trivial
theorem Mine.done.tw13243217251115563628 : True := trivial
theorem Mine.done.tw1745554169420113638 : True := trivial
theorem Mine.done.tw16447981725041664811 : True := trivial
theorem Mine.done.tw4113239371380932617 : True := trivial
theorem Mine.done.tw354600375206971748 : True := trivial
theorem Mine.done.tw2223726428872562955 : True := trivial
theorem Mine.done.tw6327862070812035729 : True := trivial
theorem Mine.done.tw1738723670083769470 : True := trivial
theorem Mine.done.tw17764958755943505239 : True := trivial
theorem Mine.done.tw1240896055047174002 : True := trivial
theorem Mine.done.tw5456402692810659826 : True := trivial
theorem Mine.done.tw12723502052660348852 : True := trivial
theorem Mine.done.tw2074346716724509980 : True := trivial
theorem Mine.done.tw6514532305396687308 : True := trivial
theorem Mine.done.tw12145850120978907173 : True := trivial
theorem Mine.done.tw16121286946988736777 : True := trivial
theorem Mine.done.tw11843697818876497331 : True := trivial
theorem Mine.done.tw12012716665933104290 : True := trivial
theorem Mine.done.tw13842701078125946202 : True := trivial
theorem Mine.done.tw14065447599955556126 : True := trivial
theorem Mine.done.tw4585552878981036900 : True := trivial
theorem Mine.done.tw7114294417968635621 : True := trivial
theorem Mine.done.tw2766064906500267002 : True := trivial
theorem Mine.done.tw9707793200311030384 : True := trivial
theorem Mine.done.tw685323007660215995 : True := trivial
theorem Mine.done.tw1702881213870136446 : True := trivial
theorem Mine.done.tw10238437170792552672 : True := trivial
theorem Mine.done.tw5319332446468182597 : True := trivial
theorem Mine.done.tw5860162287076707556 : True := trivial
theorem Mine.done.tw18054410350637600378 : True := trivial
theorem Mine.done.tw16628415947432449667 : True := trivial
theorem Mine.done.tw1583586431461168326 : True := trivial
theorem Mine.done.tw11313023372418817096 : True := trivial
theorem Mine.done.tw8559987039709094807 : True := trivial
theorem Mine.done.tw8702369734859453719 : True := trivial
theorem Mine.done.tw16282028856864183723 : True := trivial
theorem Mine.done.tw11352677783917655510 : True := trivial
theorem Mine.done.tw14897945162873137474 : True := trivial
theorem Mine.done.tw7279242695348825480 : True := trivial
theorem Mine.done.tw15751867519274525345 : True := trivial
theorem Mine.done.tw14957458520702044991 : True := trivial
theorem Mine.done.tw14456499649267895492 : True := trivial
theorem Mine.done.tw7489840753837580163 : True := trivial
theorem Mine.done.tw3968719425617534062 : True := trivial
theorem Mine.done.tw17971379704620238208 : True := trivial
theorem Mine.done.tw8439237116849111437 : True := trivial
theorem Mine.done.tw2808808168144247974 : True := trivial
theorem Mine.done.tw3346273213801112663 : True := trivial
theorem Mine.done.tw3669258606623147674 : True := trivial
theorem Mine.done.tw6132762476696990105 : True := trivial
theorem Mine.done.tw627823154837850950 : True := trivial
theorem Mine.done.tw11915334545313274314 : True := trivial
theorem Mine.done.tw2484981606068903579 : True := trivial
theorem Mine.done.tw7027599287914231099 : True := trivial
theorem Mine.done.tw6017203209521587017 : True := trivial
theorem Mine.done.tw10853269905062663613 : True := trivial
theorem Mine.done.tw14904990436197993114 : True := trivial
theorem Mine.done.tw13179257470083451636 : True := trivial
theorem Mine.done.tw1622945221636655177 : True := trivial
theorem Mine.done.tw2515453907228210247 : True := trivial
theorem Mine.done.tw12104342408865428558 : True := trivial
theorem Mine.done.tw18059119615057980904 : True := trivial
theorem Mine.done.tw4083072360844735807 : True := trivial
theorem Mine.done.tw5331131773125816216 : True := trivial
theorem Mine.done.tw12700391099944756321 : True := trivial
theorem Mine.done.tw7647533859536246363 : True := trivial
theorem Mine.done.tw18070405549828282129 : True := trivial
theorem Mine.done.tw6253680558123370605 : True := trivial
theorem Mine.done.tw5463321729452443340 : True := trivial
theorem Mine.done.tw2528540717525855740 : True := trivial
theorem Mine.done.tw10909727428846082573 : True := trivial
theorem Mine.done.tw11494055993304775376 : True := trivial
theorem Mine.done.tw8271034829885365183 : True := trivial
theorem Mine.done.tw16528860058803291386 : True := trivial
theorem Mine.done.tw10740769705920996323 : True := trivial
theorem Mine.done.tw8195772671721859617 : True := trivial
theorem Mine.done.tw5635250391806331109 : True := trivial
theorem Mine.done.tw1661646156585262824 : True := trivial
theorem Mine.done.tw10466376923415278021 : True := trivial
theorem Mine.done.tw15792720657849562519 : True := trivial
theorem Mine.done.tw9073621172106717866 : True := trivial
theorem Mine.done.tw12957326501650495007 : True := trivial
theorem Mine.done.tw5237839073361189011 : True := trivial
theorem Mine.done.tw17032980690319075139 : True := trivial
theorem Mine.done.tw4925965187438026788 : True := trivial
theorem Mine.done.tw1958696355779353053 : True := trivial
theorem Mine.done.tw11772901634447966872 : True := trivial
theorem Mine.done.tw9484769462757498608 : True := trivial
theorem Mine.done.tw8141060506640431167 : True := trivial
theorem Mine.done.tw9655855755301294594 : True := trivial
theorem Mine.done.tw185277892396474751 : True := trivial
theorem Mine.done.tw17678282965280235174 : True := trivial
theorem Mine.done.tw11059437623806961374 : True := trivial
theorem Mine.done.tw18071845290994133567 : True := trivial
theorem Mine.done.tw16567795199033245368 : True := trivial
theorem Mine.done.tw14246076398646560088 : True := trivial
theorem Mine.done.tw5671939413737482355 : True := trivial
theorem Mine.done.tw17571611196205118760 : True := trivial
theorem Mine.done.tw12045203614901119099 : True := trivial
theorem Mine.done.tw5998134287663366524 : True := trivial
theorem Mine.done.tw13308510341958434913 : True := trivial
theorem Mine.done.tw2584583906274963789 : True := trivial
theorem Mine.done.tw745130659221503597 : True := trivial
theorem Mine.done.tw15222278081087997247 : True := trivial
theorem Mine.done.tw5035763896667434694 : True := trivial
theorem Mine.done.tw14781353740538924047 : True := trivial
theorem Mine.done.tw11763052263627641747 : True := trivial
theorem Mine.done.tw4524933152032286396 : True := trivial
theorem Mine.done.tw9377027225608037340 : True := trivial
theorem Mine.done.tw16115697004517705120 : True := trivial
theorem Mine.done.tw11643047392078845174 : True := trivial
theorem Mine.done.tw15560449442650370140 : True := trivial
theorem Mine.done.tw3870176477681817936 : True := trivial
theorem Mine.done.tw2798643020932890018 : True := trivial
theorem Mine.done.tw16905283671363527850 : True := trivial
theorem Mine.done.tw16205075984147127379 : True := trivial
theorem Mine.done.tw4231462750388614670 : True := trivial
theorem Mine.done.tw7768031195595923620 : True := trivial
theorem Mine.done.tw936465751554823415 : True := trivial
theorem Mine.done.tw11343164997319302540 : True := trivial
theorem Mine.done.tw3845815441300480052 : True := trivial
theorem Mine.done.tw6897794161415094273 : True := trivial
theorem Mine.done.tw16354897678052500851 : True := trivial
theorem Mine.done.tw2339019260977374562 : True := trivial
theorem Mine.done.tw7019528777789979258 : True := trivial
theorem Mine.done.tw15396913721103133777 : True := trivial
theorem Mine.done.tw10468555589907656521 : True := trivial
theorem Mine.done.tw10697702646381726658 : True := trivial
theorem Mine.done.tw17905399816901150859 : True := trivial
theorem Mine.done.tw7304217585451752886 : True := trivial
theorem Mine.done.tw2404430568692081109 : True := trivial
theorem Mine.done.tw6701799135764062269 : True := trivial
theorem Mine.done.tw2456634860696191963 : True := trivial
theorem Mine.done.tw12642649234028509896 : True := trivial
theorem Mine.done.tw12959733386897991006 : True := trivial
theorem Mine.done.tw17922804252152651403 : True := trivial
theorem Mine.done.tw13228857063711863382 : True := trivial
theorem Mine.done.tw13334234325177702138 : True := trivial
theorem Mine.done.tw9334689119121046699 : True := trivial
theorem Mine.done.tw1561270411583692518 : True := trivial
theorem Mine.done.tw5142882647543327233 : True := trivial
theorem Mine.done.tw15225928310639829153 : True := trivial
theorem Mine.done.tw8419338810803792429 : True := trivial
theorem Mine.done.tw8486029173102831156 : True := trivial
namespace Mine
open PySem PySem.Calls PyProof.Rows PySem.Spec
set_option maxHeartbeats 80000000
set_option Elab.async true in
theorem done : PySem.Challenge.rw_sa0166_01.Holds := by
  w_on
  o_law
  o_head (kHook mk.heap_1 [2, 3, 15, 17, 18, 20, 21, 22, 29, 30, 31, 32, 35, 42, 44, 45, 47, 48, 49, 50, 51, 54, 56, 57, 59, 60, 61, 63, 64, 66, 67, 75, 77, 78, 80, 81, 82, 84, 85, 87, 88, 89, 91, 92, 94, 95, 96, 98, 99, 101, 102, 103, 105, 106, 108, 109, 110, 112, 113, 115, 116, 117, 119, 120, 122, 123, 124, 126, 127, 129, 130, 131, 133, 134, 136, 137, 138, 140, 141, 143, 144, 145, 147, 148, 150, 151, 152, 153, 154, 155, 156, 159, 161, 162, 164, 165, 166, 168, 169, 171, 172, 173, 175, 176, 178, 179, 180, 182, 183, 185, 186, 187, 189, 190, 192, 193, 194, 196, 197, 199, 200, 201, 203, 204, 206, 207, 208, 210, 211, 213, 214, 215, 217, 218, 220, 221, 222, 230, 231, 233, 234, 236, 237, 238, 240, 241, 243, 244, 245, 247, 248, 250, 251, 252, 254, 255, 257, 258, 259, 261, 262, 264, 265, 266, 268, 269, 271, 272, 273, 275, 276, 278, 279, 280, 282, 283, 285, 286, 287, 289, 290, 292, 293, 294, 296, 297, 299, 300, 301, 303, 304, 306, 307, 308, 310, 311, 313, 314, 315, 317, 318, 320, 321, 322, 324, 325, 327, 328, 329, 331, 332, 334, 335, 336, 338, 339, 341, 342, 343, 345, 346, 348, 349, 350, 352, 353, 355, 356, 357, 359, 360, 362, 363, 364, 365, 366, 367, 368, 371, 378, 380, 381, 383, 384, 385, 386, 388, 389, 391, 392, 393, 395, 396, 398, 399, 400, 402, 403, 405, 406, 407, 409, 410, 412, 413, 414, 416, 417, 419, 420, 421, 422, 423, 426, 427, 428, 430, 431, 433, 434, 435, 437, 438, 440, 441, 442, 444, 445, 447, 448, 449, 451, 452, 454, 455, 456, 458, 459, 461, 462, 463, 465, 466, 468, 469, 470, 472, 473, 475, 476, 477, 479, 480, 482, 483, 484, 486, 487, 489, 490, 491, 493, 494, 496, 497, 498, 500, 501, 503, 504, 505, 507, 508, 510, 511, 512, 514, 515, 517, 518, 519, 521, 522, 524, 525, 526, 528, 529, 531, 532, 533, 535, 536, 538, 539, 540, 542, 543, 545, 546, 547, 549, 550, 552, 553, 561, 563, 564, 566, 567, 568, 570, 571, 573, 574, 575, 576, 577, 578, 579, 582, 584, 585, 587, 588, 589, 591, 592, 594, 595, 596, 598, 599, 601, 602, 603, 605, 606, 608, 609, 610, 612, 613, 615, 616, 617, 619, 620, 622, 623, 624, 626, 627, 629, 630, 638, 639, 641, 642, 644, 645, 646, 648, 649, 651, 652, 653, 655, 656, 658, 659, 660, 662, 663, 665, 666, 667, 669, 670, 672, 673, 674, 676, 677, 679, 680, 681, 683, 684, 686, 687, 688, 690, 691, 693, 694, 695, 697, 698, 700, 701, 702, 704, 705, 707, 708, 709, 711, 712, 714, 715, 716, 718, 719, 721, 722, 723, 725, 726, 728, 729, 730, 732, 733, 735, 736, 737, 739, 740, 742, 743, 744, 746, 747, 749, 750, 751, 753, 754, 756, 757, 758, 760, 761, 763, 764, 765, 767, 768, 770, 771, 772, 774, 775, 777, 778, 779, 781, 782, 784, 785, 786, 787, 788, 789, 790, 793, 795, 796, 798, 799, 800, 802, 803, 805, 806, 807, 809, 810, 812, 813, 814, 817, 818] (fun _ => by kernel_rfl))
  (case hw => w_witness2)
  k_go0
  (all_goals try k_fold)
  (k_with "ar2" => first | with_reducible exact op0 hxs | with_reducible exact op1 hxs hlen3 h1 | with_reducible exact op3 (by assumption) | with_reducible exact op4 hq1 | with_reducible exact op6 hn2 | with_reducible exact op7 (by assumption) | with_reducible exact op8 hxs h1 | with_reducible exact op9 | with_reducible exact op11 hxs | with_reducible exact op21 hxs | with_reducible exact op25 (by assumption) | with_reducible exact op28 (by assumption) | with_reducible exact op29 hxs | with_reducible exact op31 (by assumption) | with_reducible exact op34 (by assumption) | with_reducible exact op35 hxs hlen7 | with_reducible exact op42 (by assumption) | with_reducible exact op43 this | with_reducible exact op44 (by assumption) | with_reducible exact op47 hq1 | with_reducible exact op48 hxs hi8 hlen4 | with_reducible exact op52 hi8 hp1 | with_reducible exact op62 hxs | with_reducible exact op63 hxs hlen3 hi8 | with_reducible exact op66 hxs | with_reducible exact op67 (by assumption) | with_reducible exact op69 hxs hi8 hlen4 | with_reducible exact op71 hxs hlen3 hi8 this | with_reducible exact op72 hlen3 hlen7 this | with_reducible exact op73 (by assumption) | with_reducible exact op74 hlen4 | with_reducible exact op75 (by assumption) | with_reducible exact op80 hlen3 hc3)
  rename World => wl71Z
  k_with "call ref nil" => guard_hyp wl71Z; (refine Hold.of ?_)
  walk_at "st9"
  refine Hold.mk ?_
  k_dflt (refine' go0 (e := symbols_R_pt) symbols_tells ?BLw ?FLw ?XLw ?NLw ?TLw ?hkLw ?dLw ?hdLw ?huLw ?retLw ?thrLw)
  case thrLw => exact fun _ _ _ _ _ _ _ _ _ _ hE => hE.elim
  (case FLw => k_asm)
  (case XLw => k_asm)
  (case NLw => k_asm)
  (case TLw => k_asm)
  (case hkLw => first | exact rfl | assumption)
  (case BLw => k_asm)
  (case dLw => exact dm3 (by assumption) (by assumption))
  (case hdLw => ktr_room)
  (case huLw => ktr_units)
  intro sy σ0 S0 J0 hS hdot hsm hJ0 h9 tk9 F9 N9 D9
  (refine Gen fun gG9 gK9 => ?_; obtain ⟨P0, hP0, N0, D0⟩ := law_start N9 D9 (by assumption); refine gK9 ?_; clear gK9 gG9)
  clear N9 D9
  k_sweep
  (try dsimp only)
  rename World => wl72Z
  k_with "mine call" => guard_hyp wl72Z; first
    | k_dflt (refine' go1n (e := draw_R_pt) (draw_tells hP0 (by decide) (by decide)) ?B443 ?F443 ?X443 ?N443 ?T443 ?hk443 ?d443 ?r443 ?hd443 ?hu443 ?_; (case B443 => k_asm); (case F443 => k_asm); (case X443 => k_asm); (case N443 => k_asm); (case T443 => k_asm); (case hk443 => first | exact rfl | assumption); (case d443 => walk_at "dmx"); (case r443 => walk_at "rot"); (case hd443 => walk_at "hdx"); (case hu443 => walk_at "hux"); intro P9 q9 u9 hP9 hq0 hq1 h9 tk9 F9 N9 D9; (try dsimp only [List.cons_append, List.nil_append] at N9 D9); (try k_sweep); (try dsimp only))
    | (refine Hold.of ?_)
  walk_at "st9"
  refine Hold.mk ?_
  k_dflt (refine' go3 (e := ptId) (steps_tells 6 (room := 6) (n := 100) (svs := []) (by decide) (by decide) (by decide) hP9 hS hdot hsm (by decide) (by decide)) ?BLw ?FLw ?XLw ?NLw ?TLw ?hkLw ?dLw ?r1 ?r2 ?r3 ?hdLw ?huLw ?_ ?thrLw)
  case thrLw => exact fun _ _ _ _ _ _ _ _ _ _ hE => hE.elim
  (case FLw => k_asm)
  (case XLw => k_asm)
  (case NLw => k_asm)
  (case TLw => k_asm)
  (case hkLw => first | exact rfl | assumption)
  (case BLw => k_asm)
  (case r1 => walk_at "rot")
  (case r2 => walk_at "rot")
  (case r3 => walk_at "rot")
  (case dLw => walk_at "dm")
  (case hdLw => ktr_room)
  (case huLw => ktr_units)
  intro r9 led9 hR9 h9 tk9 F9 N9 D9
  (refine Gen fun gG9 gK9 => ?_; obtain ⟨P8, S8, σ8, J8, x8, new8, k8, hP8, hS8, hle8, hdot8, hsm8, hxs, hxg, hTm, hSt, e8⟩ := hR9; refine gK9 ?_; clear gK9 gG9)
  subst e8
  dsimp only [List.cons_append, List.nil_append] at N9 D9
  k_sweep
  (try dsimp only)
  rename World => wl73Z
  k_with "exec Try" => guard_hyp wl73Z; (refine Hold.of ?_)
  k_with "mine call" => guard_hyp wl73Z; (refine Hold.of ?_)
  walk_at "st9"
  refine Hold.mk ?_
  k_dflt (refine' goK1n (e := areas_R_pt) (areas_tells (mx := 6 + q9)) ?B444 ?F444 ?X444 ?N444 ?T444 ?hk444 ?d444 ?r444 ?hd444 ?hu444 ?_; (case B444 => k_asm); (case F444 => k_asm); (case X444 => k_asm); (case N444 => k_asm); (case T444 => k_asm); (case hk444 => first | exact rfl | assumption); (case d444 => walk_at "dmx"); (case r444 => walk_at "rot"); (case hd444 => walk_at "hdx"); (case hu444 => walk_at "hux"))
  intro ma st xs M H hxs hM hH h9 tk9 F9 N9 D9
  (try dsimp only [List.cons_append, List.nil_append] at N9 D9)
  k_sweep
  (try dsimp only)
  rename World => wl74Z
  k_with "exec Try" => guard_hyp wl74Z; (refine Hold.of ?_)
  k_with "mine call" => guard_hyp wl74Z; (refine Hold.of ?_)
  walk_at "st9"
  refine Hold.mk ?_
  refine store_inst hH ?_; intro dst hl stk trl h1 h2 h3 h4 h5 h6 h7 k1 k2 k3 k4 k5 k6 k7 u1 u2 u3 vs0 n10 hI1 hI2 hI3 hV0
  refine m_inst hM ?_; intro dma xl cd rt bg hs ks ws u0 n0 hm1 hm2 hm3
  have hxz : x8.size ≤ 13 := by walk_at "ar"
  refine cut_try (by assumption) hM hSt ?bodyLw ?contLw
  case bodyLw =>
    refine wpAny_Try_except ?_
    rename World => wl75Z
    k_with "mine call" => guard_hyp wl75Z; (refine Hold.of ?_)
    walk_at "st9"
    refine Hold.mk ?_
    k_dflt (refine' go4n (e := mput_R_pt) (P4 := J8) (mput_tells hM (hH.mono (fun _ h => nomatch h)) hS8 (by show 0 + 3 * x8.size < 80000; walk_at "ar") hxg hTm) ?B445 ?F445 ?X445 ?N445 ?T445 ?hk445 ?d445 ?r445 ?rr445 ?rrr445 ?rrrr445 ?hd445 ?hu445 ?_; (case B445 => k_asm); (case F445 => k_asm); (case X445 => k_asm); (case N445 => k_asm); (case T445 => k_asm); (case hk445 => first | exact rfl | assumption); (case d445 => walk_at "dmx"); (case r445 => walk_at "rot"); (case rr445 => walk_at "rot"); (case rrr445 => walk_at "rot"); (case rrrr445 => walk_at "rot"); (case hd445 => walk_at "hdx"); (case hu445 => walk_at "hux"))
    rintro r9 led7 ⟨Jn, H7, c7, ct7, as7, ext7, hJn, g9, hcc, hHn, hL7, hnd7, hlen7, f7⟩ h9 tk9 F9 N9 D9
    subst f7 g9
    (try dsimp only [List.cons_append, List.nil_append] at N9 D9)
    k_sweep
    (try dsimp only)
    rename World => wl76Z
    k_with "mine call" => guard_hyp wl76Z; (refine Hold.of ?_)
    walk_at "st9"
    refine Hold.mk ?_
    have hz7 : (([] : List (Int × Int)) ++ ext7).length < 80000 := by simp only [List.length_nil] at hlen7; walk_at "ar"
    k_dflt (refine' go4 (e := eval_R_pt) (P4 := Jn ++ J8) (eval_tells hM hHn hS8 hdot8 hsm8 (by walk_at "ar") (by walk_at "ar") hz7 hcc hL7 hnd7 hxg (by walk_at "ar")) ?B446 ?F446 ?X446 ?N446 ?T446 ?hk446 ?d446 ?r446 ?rr446 ?rrr446 ?rrrr446 ?hd446 ?hu446 ?_ ?_; (case B446 => k_asm); (case F446 => k_asm); (case X446 => k_asm); (case N446 => k_asm); (case T446 => k_asm); (case hk446 => first | exact rfl | assumption); (case d446 => walk_at "dmx"); (case r446 => walk_at "rot"); (case rr446 => walk_at "rot"); (case rrr446 => walk_at "rot"); (case rrrr446 => walk_at "rot"); (case hd446 => walk_at "hdx"); (case hu446 => walk_at "hux"))
    · intro Jm v7 u7 hJm hev h9 tk9 F9 N9 D9
      (try dsimp only [List.cons_append, List.nil_append] at N9 D9)
      k_sweep
      (try dsimp only)
      rename World => wl77Z
      walk_at "st9"
      (refine' ⟨_, _, _, _, M, xs, H7, S8, σ8, Jm ++ (Jn ++ J8), _, 100 + x8.size, _, rfl, ?F8, ⟨?w1, ?w2, ?w3⟩, News.perm ?p8 ?N8, Dm.perm ?p8 ?D8, hM, hxs, hHn.mono (fun _ h => List.mem_append_right _ h), ?lenLw, hS8, hdot8, hsm8, by walk_at "ar", hxg, hSt.mono (fun _ h => List.mem_append_right _ (List.mem_append_right _ h)), ?wwLw⟩; (case F8 => k_asm); (case N8 => k_asm); (case D8 => walk_at "dm"); (case lenLw => simpa using hlen7); (case w1 => rfl); (case w2 => rfl); (case w3 => rfl); (case wwLw => exact .inl ⟨_, _, rfl, hev⟩); (case p8 => (refine' rots6 (P := M) (P2 := H7) (P3 := S8) (P4 := Jm ++ (Jn ++ J8)) (P5 := [(_, listOf new8.toArray k8)]) (P6 := [(_, _)]) ?raLw ?rbLw ?rcLw ?rdLw ?reLw ?rfLw; (case raLw => walk_at "rot"); (case rbLw => walk_at "rot"); (case rcLw => walk_at "rot"); (case rdLw => walk_at "rot"); (case reLw => walk_at "rot"); (case rfLw => walk_at "rot"))))
    · intro e9 dx9 led9 h9 tk9 g9 F9 U9 R9 D9 hE9
      (refine Gen fun gG9 gK9 => ?_; obtain ⟨er, hev, hA⟩ := hE9; refine gK9 ?_; clear gK9 gG9)
      (refine Gen fun gG9 gK9 => ?_; obtain ⟨S', σ', hs', k', v', J', hS', hle', hdot', hsm', hkn', hball', e9'⟩ := hA; refine gK9 ?_; clear gK9 gG9)
      subst e9'
      (try dsimp only)
      (refine Gen fun gG9 gK9 => ?_; obtain ⟨b', hb'⟩ : ∃ b, v' = .ref b := (by cases hball' <;> exact ⟨_, rfl⟩); refine gK9 ?_; clear gK9 gG9)
      subst hb'
      refine caught_peX (n := "fault") (by assumption) F9 U9 R9 (by k_asm) (topRead_of (by k_asm)) (fun h' oe tk F1 N1 ho1 ho2 ho3 => ?_)
      have D1 := rz_dm (oe := oe) R9 D9
      rename World => wl78Z
      k_with "W getAttr ref" => guard_hyp wl78Z; (refine Hold.of ?_)
      walk_at "st9"
      refine Hold.mk ?_
      refine get_ball F1 (by k_asm) N1 (List.mem_append_right _ (.head _)) ho1 ho2 ho3 ?_
      walk_at "st9"
      refine goes_X (by k_asm) (by assumption) (fun h2 v2 F2 N2 => ?_)
      (try dsimp only)
      (refine' ⟨rfl, _, _, _, _, M, xs, H7, S', σ', J' ++ (Jn ++ J8), _, 100 + x8.size + 2, _, rfl, F2, ⟨?w1, ?w2, ?w3⟩, News.perm ?p8 N2, Dm.perm ?p8 D1, hM, hxs, hHn.mono (fun _ h => List.mem_append_right _ h), ?lenLw, hS', hdot', hsm', by walk_at "ar", hxg.mono hle', hSt.mono (fun _ h => List.mem_append_right _ (List.mem_append_right _ h)), ?wwLw⟩; (case lenLw => simpa using hlen7); (case w1 => rfl); (case w2 => rfl); (case w3 => rfl); (case wwLw => exact .inr ⟨er, by rw [evT_mono hle' hxg]; exact hev, hkn', hball'.mono (fun _ h => List.mem_append_left _ h)⟩); (case p8 => (refine' rots6J (P := M) (P2 := H7) (P3 := S') (Pa := J') (Pb := Jn ++ J8) (P5 := [(_, listOf new8.toArray k8)]) (P6 := [(_, _)]) ?raLw ?rbLw ?rcLw ?rdLw ?rddLw ?reLw ?rfLw; (case raLw => walk_at "rot"); (case rbLw => walk_at "rot"); (case rcLw => walk_at "rot"); (case rdLw => walk_at "rot"); (case rddLw => walk_at "rot"); (case reLw => walk_at "rot"); (case rfLw => walk_at "rot"))))
  case contLw =>
    intro s' hmid
    (refine Gen fun gG9 gK9 => ?_; obtain ⟨h2, tk2, m2, W, M2, xs2, H2, S2, σ2, J2, hp2, n2, R2, rfl, F2, ⟨mw, mm, ms⟩, N2, D2, hM2, hx2, hH2, hlen2, hS2, hd2, hsm2, hn2, hg2, hSt2, hW⟩ := hmid; refine gK9 ?_; clear gK9 gG9)
    dsimp only [List.cons_append, List.nil_append] at N2 D2

    rename World => wl79Z
    (try dsimp only)
    walk_at "st9"
    refine store_made (by k_asm) (by assumption) (by first | assumption | exact Dm.new D2 (by assumption)) (by walk_at "rot") (by assumption) rfl (fun h3 o3 F3 N3 ho3 D3 => ?_)
    (try dsimp only)
    walk_at "st9"
    any_goals (first | exact Str.empty | exact (show Addr from (0 : Nat)) | exact Value.none)
    have hxz2 : x8.size ≤ 13 := by walk_at "ar"
    refine law_iter rfl (by k_asm) (by assumption) D3 ⟨mw, mm⟩ ho3 hM2 hx2 hH2 hlen2 hS2 hSt2 hW (fun i v m₁ led₁ h tk I io hv hJ F1 N1 D1 hio => genK fun K9 hK9 => ?_) (fun m₁ led₁ h tk hJ F1 N1 D1 => ?_)
    · (refine Gen fun gG9 gK9 => ?_; obtain ⟨M3, xs3, H3, S3, J3, hp3, mvs, k5, vals, o4, R3, ⟨mw3, mm3⟩, rfl, ho4, hM3, hx3, hH3, hlen3, hS3, hrun, hvl, hbd, hmade, hSt3, hW3⟩ := hJ; refine gK9 ?_; clear gK9 gG9)
      dsimp only [List.cons_append, List.nil_append] at N1 D1
      (refine Gen fun gG9 gK9 => ?_; obtain ⟨sx, hsx⟩ : ∃ sx, (x8.post 0)[i]? = some sx := ⟨_, List.getElem?_eq_getElem (by rw [← hSt3.1]; exact (List.getElem?_eq_some_iff.mp hv).1)⟩; refine gK9 ?_; clear gK9 gG9)
      have hstep := hSt3.2 i v sx hv hsx
      have hsg := post_good x8 0 i hg2 hsx
      have hi8 : i < 13 := by
        have h1 := (List.getElem?_eq_some_iff.mp hsx).1
        rw [Tm.post_length] at h1; walk_at "ar"
      refine m_inst hM3 ?_; intro dma xl cd rt bg hs ks ws u0 n0 hm1' hm2' hm3'
      refine store_inst hH3 ?_; intro dst3 hl3 stk3 trl3 g1 g2 g3 g4 g5 g6 g7 q1 q2 q3 q4 q5 q6 q7 y1 y2 y3 vs3 n3 hI31 hI32 hI33 hV3
      rename World => wl80Z
      k_with "exec If" => guard_hyp wl80Z; (refine Hold.of ?_)
      walk_at "st9"
      refine Hold.mk ?_
      refine cut_goal N1 hM3 hS3 hSt3 hsx hW3 ?bodyLw ?contLw
      case bodyLw =>
        refine step_cases hstep ?_ ?_
        -- LEAF
        · rintro t rfl hTv a9 s9 t91 n9 t92 k9 rfl hm9
          rename World => wl81Z
          k_with "mine call" => guard_hyp wl81Z; (refine Hold.of ?_)
          walk_at "st9"
          (try any_goals (first | exact Str.empty | exact (show Nat from 0) | exact (show Addr from (0 : Nat)) | exact Value.none))
          refine Hold.mk ?_
          k_dflt (refine' go4n (e := mput_R_pt) (P4 := J3) (mput_tells hM3 hH3 hS3 (by have := hsg.2; walk_at "ar") hsg.1 hTv) ?B447 ?F447 ?X447 ?N447 ?T447 ?hk447 ?d447 ?r447 ?rr447 ?rrr447 ?rrrr447 ?hd447 ?hu447 ?_; (case B447 => k_asm); (case F447 => k_asm); (case X447 => k_asm); (case N447 => k_asm); (case T447 => k_asm); (case hk447 => first | exact rfl | assumption); (case d447 => walk_at "dmx"); (case r447 => walk_at "rot"); (case rr447 => walk_at "rot"); (case rrr447 => walk_at "rot"); (case rrrr447 => walk_at "rot"); (case hd447 => walk_at "hdx"); (case hu447 => walk_at "hux"))
          rintro r9 led7 ⟨Jn, H7, c7, ct7, as7, ext7, hJn, g9, hcc, hHn, hL7, hnd7, hlen7, f7⟩ h9 tk9 F9 N9 D9
          subst f7 g9
          (try dsimp only [List.cons_append, List.nil_append] at N9 D9)
          k_sweep
          (try dsimp only)
          rename World => wl82Z
          walk_at "st9"
          refine' LawG.mk _ _ _ M3 xs3 H7 S3 (Jn ++ J3) _ mvs k5 vals o4 _ c7 ct7 t as7 rfl ?F8 ⟨?w1, ?w2, ?w3⟩ (News.perm ?p8 ?N8) (Dm.perm ?p8 ?D8) ho4 hM3 hx3 hHn ?lenLw hS3 hrun hvl hbd (hmade.grow.mono fun _ h => List.mem_append_right _ h) (hSt3.mono fun _ h => List.mem_append_right _ h) (hW3.mono fun _ h => List.mem_append_right _ h) hcc hL7 hnd7 hsg.1 (by have := hsg.2; walk_at "ar") rfl
          (case F8 => k_asm)
          (case N8 => k_asm)
          (case D8 => walk_at "dm")
          (case w1 => exact mw3)
          (case w2 => exact mm3)
          (case w3 => rfl)
          (case lenLw => have := hsg.2; walk_at "ar")
          (case p8 => (refine' rotsG (P0 := [(I, io)]) (P := M3) (P2 := H7) (P3 := S3) (P4 := Jn ++ J3) (P5 := [(_, listOf new8.toArray k8)]) (P6 := [(_, o4)]) (P7 := [(_, listOf mvs.toArray k5)]) ?raLw ?rbLw ?rcLw ?rdLw ?reLw ?rfLw ?rgLw ?rhLw; (case raLw => walk_at "rot"); (case rbLw => walk_at "rot"); (case rcLw => walk_at "rot"); (case rdLw => walk_at "rot"); (case reLw => walk_at "rot"); (case rfLw => walk_at "rot"); (case rgLw => walk_at "rot"); (case rhLw => walk_at "rot")))
        -- APP
        · rintro a9 b9 f9 t9 k9 ps9 pvs9 n9 rfl rfl hm9 hl9 hpl9 hpz9 hpp9
          rename World => wl83Z
          k_with "mine call" => guard_hyp wl83Z; (refine Hold.of ?_)
          k_with "CompSrc" => guard_hyp wl83Z; (refine Hold.of ?_)
          walk_at "st9"
          (try any_goals (first | exact Str.empty | exact (show Nat from 0) | exact (show Addr from (0 : Nat)) | exact Value.none))
          refine Hold.mk ?_
          refine app_goal hmade hvl hsg hbd ?_
          intro cts ces fa hcv hc0 hc1 hc2 hc3 hder hf0 hf1 hff hLg hGg hzg
          refine comp_src (k := n9) (ps9.map fun p => mvs.getD p.toNat .none) (by exact rfl) (by k_asm) N1 ?hm9 (by rw [List.length_map]; exact hpl9.symm) hpz9 (fun g => ?fin9) (fun j v u I' oI C oC D ys m₂ h' tk' Q' E' hv' hu' hC hx F' N' hq => ?turn9)
          case hm9 => exact List.mem_cons_of_mem _ (List.mem_append_right _ (List.mem_append_right _ (List.mem_append_right _ (List.mem_append_left _ hl9))))
          case turn9 =>
            (refine Gen fun gG9 gK9 => ?_; obtain ⟨p, t8, rfl, hmv, hp0, hp1⟩ := place_at hmade hvl hsg hpp9 rfl hv' hu'; refine gK9 ?_; clear gK9 gG9)
            have hp2 : p < 2 ^ 63 := by walk_at "ar"
            rename World => wl84Z
            walk_at "st9"
            exact hq _
          case fin9 =>
            intro D' h' tk' F' N' o1'
            have D5 := off1_dm (o := LCg.lst (ps9.map fun p => mvs.getD p.toNat .none)) o1' D1
            rename World => wl85Z
            k_with "mine call" => guard_hyp wl85Z; (refine Hold.of ?_)
            walk_at "st9"
            (try any_goals (first | exact Str.empty | exact (show Nat from 0) | exact (show Addr from (0 : Nat)) | exact Value.none))
            refine Hold.mk ?_
            k_dflt (refine' go4n (e := newstr_R_pt) (P := H3) (P2 := S3) (P3 := J3) (P4 := [(_, listOf (ps9.map fun p => mvs.getD p.toNat .none).toArray _)]) (newstr_tells hH3 hS3 (by walk_at "ar") hcv hc0 hc1 hc2 hder hf0 hf1 hff) ?B448 ?F448 ?X448 ?N448 ?T448 ?hk448 ?d448 ?r448 ?rr448 ?rrr448 ?rrrr448 ?hd448 ?hu448 ?_; (case B448 => k_asm); (case F448 => k_asm); (case X448 => k_asm); (case N448 => k_asm); (case T448 => k_asm); (case hk448 => first | exact rfl | assumption); (case d448 => walk_at "dmx"); (case r448 => walk_at "rot"); (case rr448 => walk_at "rot"); (case rrr448 => walk_at "rot"); (case rrrr448 => walk_at "rot"); (case hd448 => walk_at "hdx"); (case hu448 => walk_at "hux"))
            intro Jn H7 c7 hJn hcc hHn h9 tk9 F9 N9 D9
            (try dsimp only [List.cons_append, List.nil_append] at N9 D9)
            k_sweep
            (try dsimp only)
            rename World => wl86Z
            walk_at "st9"
            refine' LawG.mk _ _ _ M3 xs3 H7 S3 (Jn ++ J3) _ mvs k5 vals o4 _ c7 _ _ _ rfl ?F8 ⟨?w1, ?w2, ?w3⟩ (News.perm ?p8 ?N8) (Dm.perm ?p8 ?D8) ho4 hM3 hx3 hHn ?lenLw hS3 hrun hvl hbd (hmade.grow.mono fun _ h => List.mem_append_right _ h) (hSt3.mono fun _ h => List.mem_append_right _ h) (hW3.mono fun _ h => List.mem_append_right _ h) hcc hLg (by simp) hGg hzg (ev_stT hsg)
            (case F8 => k_asm)
            (case N8 => k_asm)
            (case D8 => walk_at "dm")
            (case w1 => exact mw3)
            (case w2 => exact mm3)
            (case w3 => rfl)
            (case lenLw => simp only [List.length_append, List.length_cons]; walk_at "ar")
            (case p8 => (refine' rotsG (P0 := [(I, io)]) (P := M3) (P2 := H7) (P3 := S3) (P4 := Jn ++ J3) (P5 := [(_, listOf new8.toArray k8)]) (P6 := [(_, o4)]) (P7 := [(_, listOf mvs.toArray k5)]) ?raLw ?rbLw ?rcLw ?rdLw ?reLw ?rfLw ?rgLw ?rhLw; (case raLw => walk_at "rot"); (case rbLw => walk_at "rot"); (case rcLw => walk_at "rot"); (case rdLw => walk_at "rot"); (case reLw => walk_at "rot"); (case rfLw => walk_at "rot"); (case rgLw => walk_at "rot"); (case rhLw => walk_at "rot")))
      -- CONT
      case contLw =>
        clear hstep hv hmade hSt3 hW3 hH3 hM3 hS3 hrun hvl hbd hm1' hm2' hm3' hI31 hI32 hI33 hV3 hlen3 hx3 N1 D1
        intro s' hmid
        (refine Gen fun gG9 gK9 => ?_; obtain ⟨h4, tk4, m4, M4, xs4, H4, S4, J4, hp4, mvs4, k54, vals4, o4', R4, gc, ct, tg, asg, rfl, F4, ⟨mw4, mm4, mg4⟩, N4, D4, ho4', hM4, hx4, hH4, hlen4, hS4, hrun4, hvl4, hbd4, hmade4, hSt4, hW4, hgc, hLg, hndg, hGg, hzg, hevg⟩ := hmid; refine gK9 ?_; clear gK9 gG9)
        dsimp only [List.cons_append, List.nil_append] at N4 D4
        refine m_inst hM4 ?_; intro dma xl cd rt bg hs ks ws u0 n0 hm1' hm2' hm3'
        refine store_inst hH4 ?_; intro dst3 hl3 stk3 trl3 g1 g2 g3 g4 g5 g6 g7 q1 q2 q3 q4 q5 q6 q7 y1 y2 y3 vs3 n3 hI31 hI32 hI33 hV3
        have hml4 : mvs4.length < 100 := by rw [hmade4.1]; walk_at "ar"
        k_sweep
        (try dsimp only)
        rename World => wl87Z
        k_with "mine call" => guard_hyp wl87Z; first
          | k_dflt (refine' go2n (e := newvar_R_pt) (newvar_tells hH4 (by walk_at "ar")) ?B449 ?F449 ?X449 ?N449 ?T449 ?hk449 ?d449 ?r449 ?rr449 ?hd449 ?hu449 ?_; (case B449 => k_asm); (case F449 => k_asm); (case X449 => k_asm); (case N449 => k_asm); (case T449 => k_asm); (case hk449 => first | exact rfl | assumption); (case d449 => walk_at "dmx"); (case r449 => walk_at "rot"); (case rr449 => walk_at "rot"); (case hd449 => walk_at "hdx"); (case hu449 => walk_at "hux"); intro cv H5 tv tv' kv hH5 h9 tk9 F9 N9 D9; (try dsimp only [List.cons_append, List.nil_append] at N9 D9); (try k_sweep); (try dsimp only))
          | k_dflt (refine' go2n (e := setargs_R_pt) (P2 := [(_, listOf #[.ref cv, .ref gc] _)]) (setargs_tells hM4 hx4) ?B450 ?F450 ?X450 ?N450 ?T450 ?hk450 ?d450 ?r450 ?rr450 ?hd450 ?hu450 ?_; (case B450 => k_asm); (case F450 => k_asm); (case X450 => k_asm); (case N450 => k_asm); (case T450 => k_asm); (case hk450 => first | exact rfl | assumption); (case d450 => walk_at "dmx"); (case r450 => walk_at "rot"); (case rr450 => walk_at "rot"); (case hd450 => walk_at "hdx"); (case hu450 => walk_at "hux"); intro M5 xs5 hM5 hx5 hx51 hx52 h9 tk9 F9 N9 D9; (try dsimp only [List.cons_append, List.nil_append] at N9 D9); (try k_sweep); (try dsimp only))
          | (refine Hold.of ?_)
        k_with "exec Try" => guard_hyp wl87Z; (refine Hold.of ?_)
        walk_at "st9"
        (try any_goals (first | exact Str.empty | exact (show Nat from 0) | exact (show Addr from (0 : Nat)) | exact Value.none))
        refine Hold.mk ?_
        refine wpAny_Try_except ?_
        rename World => wl88Z
        k_with "mine call" => guard_hyp wl88Z; (refine Hold.of ?_)
        walk_at "st9"
        (try any_goals (first | exact Str.empty | exact (show Nat from 0) | exact (show Addr from (0 : Nat)) | exact Value.none))
        refine Hold.mk ?_
        have hz5 : (hp4 ++ [((0 : Int), (hp4.length : Int))]).length < 80000 := by rw [List.length_append]; simp only [List.length_cons, List.length_nil]; walk_at "ar"
        have hp5 : (hp4 ++ [((0 : Int), (hp4.length : Int))])[((hp4.length : Int)).toNat]? = some (0, (hp4.length : Int)) := by simp
        k_dflt (refine' go4 (e := isvA_R_pt) (P := M5) (P2 := H5) (P3 := S4) (P4 := (cv, tupO [.int 0 tv, .int (hp4.length : Int) tv'] kv) :: J4) (isvA_tells hM5 hx51 hx52 hx5 hH5 hS4 hd2 hsm2 (by walk_at "ar") (by walk_at "ar") hz5 (cell_head rfl rfl) (by walk_at "ar") hp5 (hgc.mono fun _ h => .tail _ h) hLg.app hndg hGg hzg) ?B451 ?F451 ?X451 ?N451 ?T451 ?hk451 ?d451 ?r451 ?rr451 ?rrr451 ?rrrr451 ?hd451 ?hu451 ?_ ?_; (case B451 => k_asm); (case F451 => k_asm); (case X451 => k_asm); (case N451 => k_asm); (case T451 => k_asm); (case hk451 => first | exact rfl | assumption); (case d451 => walk_at "dmx"); (case r451 => walk_at "rot"); (case rr451 => walk_at "rot"); (case rrr451 => walk_at "rot"); (case rrrr451 => walk_at "rot"); (case hd451 => walk_at "hdx"); (case hu451 => walk_at "hux"))
        · intro Jn6 H6 v6 hJn6 hev6 hH6 h9 tk9 F9 N9 D9
          (try dsimp only [List.cons_append, List.nil_append] at N9 D9)
          rw [hevg] at hev6
          refine m_inst hM5 ?_; intro dma xl cd rt bg hs ks ws u0 n0 hm1' hm2' hm3'
          refine store_inst hH6 ?_; intro dst3 hl3 stk3 trl3 g1 g2 g3 g4 g5 g6 g7 q1 q2 q3 q4 q5 q6 q7 y1 y2 y3 vs3 n3 hI31 hI32 hI33 hV3
          have e6 : (hp4 ++ [((0 : Int), (hp4.length : Int))]).set ((hp4.length : Int)).toNat (5, v6) = hp4 ++ [(5, v6)] := by simp
          have hmd6 := (hmade4.grow (e := [((0 : Int), (hp4.length : Int))])).mono (J' := Jn6 ++ ((cv, tupO [.int 0 tv, .int (hp4.length : Int) tv'] kv) :: J4)) (fun _ h => List.mem_append_right _ (.tail _ h))
          have hz6 : (hp4 ++ [((5 : Int), v6)]).length < 80000 := by simp only [List.length_append, List.length_cons, List.length_nil] at hz5 ⊢; exact hz5
          rw [e6] at hH6
          have hc6 : CellIn (Jn6 ++ ((cv, tupO [.int 0 tv, .int (hp4.length : Int) tv'] kv) :: J4)) cv (0, (hp4.length : Int)) := (cell_head (J := J4) rfl rfl).mono fun _ h => List.mem_append_right _ h
          have hg6 : CellIn (Jn6 ++ ((cv, tupO [.int 0 tv, .int (hp4.length : Int) tv'] kv) :: J4)) gc ct := hgc.mono fun _ h => List.mem_append_right _ (.tail _ h)
          have hmd7 := hmd6.set (v := v6) hp5 hc6
          rw [e6] at hmd7
          have hd6 : Der (hp4 ++ [((5 : Int), v6)]) 1 (0, (hp4.length : Int)) (5, v6) := .step (by simp) (.val (by simp) (by simp)) (by walk_at "ar") (by simp)
          have hb6 := st_bound (by walk_at "ar") hsg hev6
          k_sweep
          (try dsimp only)
          rename World => wl89Z
          k_with "mine call" => guard_hyp wl89Z; first
            | k_dflt (refine' go2n (e := deref_R_pt) (P := H6) (P2 := Jn6 ++ ((cv, tupO [.int 0 tv, .int (hp4.length : Int) tv'] kv) :: J4)) (deref_tells hH6 hc6 (by walk_at "ar") hd6) ?B452 ?F452 ?X452 ?N452 ?T452 ?hk452 ?d452 ?r452 ?rr452 ?hd452 ?hu452 ?_; (case B452 => k_asm); (case F452 => k_asm); (case X452 => k_asm); (case N452 => k_asm); (case T452 => k_asm); (case hk452 => first | exact rfl | assumption); (case d452 => walk_at "dmx"); (case r452 => walk_at "rot"); (case rr452 => walk_at "rot"); (case hd452 => walk_at "hdx"); (case hu452 => walk_at "hux"); intro at6 hat6 h9 tk9 F9 N9 D9; (refine Gen fun gG9 gK9 => ?_; obtain ⟨ta6, ta6', ka6, hta6⟩ := id hat6; refine gK9 ?_; clear gK9 gG9); replace hta6 : (at6, tupO [.int 5 ta6, .int v6 ta6'] ka6) ∈ Jn6 ++ ((cv, tupO [.int 0 tv, .int (hp4.length : Int) tv'] kv) :: J4) := hta6; (try dsimp only [List.cons_append, List.nil_append] at N9 D9); (try k_sweep); (try dsimp only))
            | (refine Hold.of ?_)
          walk_at "st9"
          (try any_goals (first | exact Str.empty | exact (show Nat from 0) | exact (show Addr from (0 : Nat)) | exact Value.none))
          refine Hold.mk ?_
          k_dflt (refine' go2n (e := setargs_R_pt) (P := M5) (P2 := [(_, listOf #[.ref at6, .ref gc] _)]) (setargs_tells hM5 (.inr hx5)) ?B453 ?F453 ?X453 ?N453 ?T453 ?hk453 ?d453 ?r453 ?rr453 ?hd453 ?hu453 ?_; (case B453 => k_asm); (case F453 => k_asm); (case X453 => k_asm); (case N453 => k_asm); (case T453 => k_asm); (case hk453 => first | exact rfl | assumption); (case d453 => walk_at "dmx"); (case r453 => walk_at "rot"); (case rr453 => walk_at "rot"); (case hd453 => walk_at "hdx"); (case hu453 => walk_at "hux"))
          intro M7 xs7 hM7 hx7 hx71 hx72 h9 tk9 F9 N9 D9
          (try dsimp only [List.cons_append, List.nil_append] at N9 D9)
          k_sweep
          (try dsimp only)
          rename World => wl90Z
          k_with "mine call" => guard_hyp wl90Z; (refine Hold.of ?_)
          walk_at "st9"
          (try any_goals (first | exact Str.empty | exact (show Nat from 0) | exact (show Addr from (0 : Nat)) | exact Value.none))
          refine Hold.mk ?_
          k_dflt (refine' go4 (e := isvB_R_pt) (P := M7) (P2 := H6) (P3 := S4) (P4 := Jn6 ++ ((cv, tupO [.int 0 tv, .int (hp4.length : Int) tv'] kv) :: J4)) (isvB_tells hM7 hx71 hx72 hx7 hH6 hS4 hd2 hsm2 (by walk_at "ar") (by walk_at "ar") hz6 hat6 hg6 hLg.app hndg hGg hzg) ?B454 ?F454 ?X454 ?N454 ?T454 ?hk454 ?d454 ?r454 ?rr454 ?rrr454 ?rrrr454 ?hd454 ?hu454 ?_ ?_; (case B454 => k_asm); (case F454 => k_asm); (case X454 => k_asm); (case N454 => k_asm); (case T454 => k_asm); (case hk454 => first | exact rfl | assumption); (case d454 => walk_at "dmx"); (case r454 => walk_at "rot"); (case rr454 => walk_at "rot"); (case rrr454 => walk_at "rot"); (case rrrr454 => walk_at "rot"); (case hd454 => walk_at "hdx"); (case hu454 => walk_at "hux"))
          · intro Jn7 v7 hJn7 hev7 h9 tk9 F9 N9 D9
            rw [hevg, hev6] at hev7
            obtain rfl : v6 = v7 := Except.ok.inj hev7
            rw [show decide (v6 = v6) = true from decide_eq_true rfl]
            (try dsimp only [List.cons_append, List.nil_append] at N9 D9)
            refine m_inst hM7 ?_; intro dma xl cd rt bg hs ks ws u0 n0 hm1' hm2' hm3'
            k_sweep
            (try dsimp only)
            rename World => wl91Z
            k_with "mine call" => guard_hyp wl91Z; (refine Hold.of ?_)
            walk_at "st9"
            (try any_goals (first | exact Str.empty | exact (show Nat from 0) | exact (show Addr from (0 : Nat)) | exact Value.none))
            refine Hold.mk ?_
            k_dflt (refine' go2n (e := setargs_R_pt) (P := M7) (P2 := [(_, listOf #[.ref _, .ref gc] _)]) (setargs_tells hM7 (.inr hx7)) ?B455 ?F455 ?X455 ?N455 ?T455 ?hk455 ?d455 ?r455 ?rr455 ?hd455 ?hu455 ?_; (case B455 => k_asm); (case F455 => k_asm); (case X455 => k_asm); (case N455 => k_asm); (case T455 => k_asm); (case hk455 => first | exact rfl | assumption); (case d455 => walk_at "dmx"); (case r455 => walk_at "rot"); (case rr455 => walk_at "rot"); (case hd455 => walk_at "hdx"); (case hu455 => walk_at "hux"))
            intro M8 xs8 hM8 hx8 hx81 hx82 h9 tk9 F9 N9 D9
            (try dsimp only [List.cons_append, List.nil_append] at N9 D9)
            k_sweep
            (try dsimp only)
            rename World => wl92Z
            k_with "mine call" => guard_hyp wl92Z; (refine Hold.of ?_)
            walk_at "st9"
            (try any_goals (first | exact Str.empty | exact (show Nat from 0) | exact (show Addr from (0 : Nat)) | exact Value.none))
            refine Hold.mk ?_
            k_dflt (refine' go4 (e := isvB_R_pt) (P := M8) (P2 := H6) (P3 := S4) (P4 := (_, tupO [.int 5 _, .int (v6 + 1) _] _) :: (Jn7 ++ (Jn6 ++ ((cv, tupO [.int 0 tv, .int (hp4.length : Int) tv'] kv) :: J4)))) (isvB_tells hM8 hx81 hx82 hx8 (hH6.mono fun _ h => .tail _ (List.mem_append_right _ h)) hS4 hd2 hsm2 (by walk_at "ar") (by walk_at "ar") hz6 (cell_head rfl rfl) (hg6.mono fun _ h => .tail _ (List.mem_append_right _ h)) hLg.app hndg hGg hzg) ?B456 ?F456 ?X456 ?N456 ?T456 ?hk456 ?d456 ?r456 ?rr456 ?rrr456 ?rrrr456 ?hd456 ?hu456 ?_ ?_; (case B456 => k_asm); (case F456 => k_asm); (case X456 => k_asm); (case N456 => k_asm); (case T456 => k_asm); (case hk456 => first | exact rfl | assumption); (case d456 => walk_at "dmx"); (case r456 => walk_at "rot"); (case rr456 => walk_at "rot"); (case rrr456 => walk_at "rot"); (case rrrr456 => walk_at "rot"); (case hd456 => walk_at "hdx"); (case hu456 => walk_at "hux"))
            · intro Jn8 v8 hJn8 hev8 h9 tk9 F9 N9 D9
              rw [hevg, hev6] at hev8
              obtain rfl : v6 = v8 := Except.ok.inj hev8
              rw [show decide (v6 + 1 = v6) = false from decide_eq_false (by walk_at "ar")]
              (try dsimp only [List.cons_append, List.nil_append] at N9 D9)
              k_sweep
              (try dsimp only)
              rename World => wl93Z
              walk_at "st9"
              (try any_goals (first | exact Str.empty | exact (show Nat from 0) | exact (show Addr from (0 : Nat)) | exact Value.none))
              have hbd8 : ∀ v ∈ vals4 ++ [v6], -(2 ^ 66) ≤ v ∧ v ≤ 2 ^ 66 := fun v hv => by
                rcases List.mem_append.mp hv with hv | hv
                · exact hbd4 v hv
                · rw [List.mem_singleton.mp hv]; exact hb6
              (repeat refine' Kon.ret (by assumption) ?_); (try dsimp only); refine hK9 _ _ ?_; refine' TurnQ.rotP ?FzLw ?NzLw ?DzLw ?rzLw ?pzLw (LawJ.mk M8 xs8 H6 S4 (Jn8 ++ ((_, tupO [.int 5 _, .int (v6 + 1) _] _) :: (Jn7 ++ (Jn6 ++ ((cv, tupO [.int 0 tv, .int (hp4.length : Int) tv'] kv) :: J4))))) _ (mvs4 ++ [Value.ref cv]) _ (vals4 ++ [v6]) o4' _ ⟨?w1, ?w2⟩ rfl ho4' hM8 (.inr hx8) (hH6.mono fun _ h => List.mem_append_right _ (.tail _ (List.mem_append_right _ h))) ?lenLw hS4 (run_next hrun4 hsx hev6) (by rw [List.length_append, hvl4]; rfl) hbd8 (hmd7.mono fun _ h => List.mem_append_right _ (.tail _ (List.mem_append_right _ h))) (hSt4.mono fun _ h => List.mem_append_right _ (.tail _ (List.mem_append_right _ (List.mem_append_right _ (.tail _ h))))) (hW4.mono fun _ h => List.mem_append_right _ (.tail _ (List.mem_append_right _ (List.mem_append_right _ (.tail _ h))))))
              (case FzLw => k_asm)
              (case NzLw => k_asm)
              (case DzLw => walk_at "dm")
              (case rzLw => walk_at "rot")
              (case pzLw => (refine' rots7 (P := M8) (P2 := H6) (P3 := S4) (P4 := Jn8 ++ ((_, tupO [.int 5 _, .int (v6 + 1) _] _) :: (Jn7 ++ (Jn6 ++ ((cv, tupO [.int 0 tv, .int (hp4.length : Int) tv'] kv) :: J4))))) (P5 := [(_, listOf new8.toArray k8)]) (P6 := [(_, o4')]) (P7 := [(_, listOf (mvs4 ++ [Value.ref cv]).toArray _)]) ?raLw ?rbLw ?rcLw ?rdLw ?reLw ?rfLw ?rgLw; (case raLw => walk_at "rot"); (case rbLw => walk_at "rot"); (case rcLw => walk_at "rot"); (case rdLw => walk_at "rot"); (case reLw => walk_at "rot"); (case rfLw => walk_at "rot"); (case rgLw => walk_at "rot")))
              (case w1 => exact mw4)
              (case w2 => exact mm4)
              (case lenLw => simp only [List.length_append, List.length_cons, List.length_nil]; walk_at "ar")
            · intro e9 dx9 led9 h9 tk9 g9 F9 U9 R9 D9 hE9
              (refine Gen fun gG9 gK9 => ?_; obtain ⟨er, hev, hA⟩ := hE9; refine gK9 ?_; clear gK9 gG9)
              rw [hevg, hev6] at hev
              cases hev
          · intro e9 dx9 led9 h9 tk9 g9 F9 U9 R9 D9 hE9
            (refine Gen fun gG9 gK9 => ?_; obtain ⟨er, hev, hA⟩ := hE9; refine gK9 ?_; clear gK9 gG9)
            rw [hevg, hev6] at hev
            cases hev
        · intro e9 dx9 led9 h9 tk9 g9 F9 U9 R9 D9 hE9
          (refine Gen fun gG9 gK9 => ?_; obtain ⟨er, hev, hA⟩ := hE9; refine gK9 ?_; clear gK9 gG9)
          (refine Gen fun gG9 gK9 => ?_; obtain ⟨S', σ', hs', k', v', J', hS', hle', hdot', hsm', hkn', hball', e9'⟩ := hA; refine gK9 ?_; clear gK9 gG9)
          subst e9'
          (try dsimp only)
          rw [hevg] at hev
          (refine Gen fun gG9 gK9 => ?_; obtain ⟨hkW, htW⟩ := whole_err hW4 hrun4 hsx hev; refine gK9 ?_; clear gK9 gG9)
          rw [(Er.known_le hle' hkW).2] at hball'
          (refine Gen fun gG9 gK9 => ?_; obtain ⟨b', hb'⟩ : ∃ b, v' = .ref b := (by cases hball' <;> exact ⟨_, rfl⟩); refine gK9 ?_; clear gK9 gG9)
          subst hb'
          refine caught_peX (n := "fault") (by assumption) F9 U9 R9 (by k_asm) (topRead_of (by k_asm)) (fun h' oe tk F1 N1 ho1 ho2 ho3 => ?_)
          have D1 := rz_dm (oe := oe) R9 D9
          rename World => wl94Z
          k_with "W getAttr ref" => guard_hyp wl94Z; (refine Hold.of ?_)
          walk_at "st9"
          refine Hold.mk ?_
          refine get_ball F1 (by k_asm) N1 (List.mem_append_right _ (.head _)) ho1 ho2 ho3 ?_
          walk_at "st9"
          (try any_goals (first | exact Str.empty | exact (show Nat from 0) | exact (show Addr from (0 : Nat)) | exact Value.none))
          dsimp only [List.cons_append, List.nil_append] at N1
          refine eq_balls N1 (hball'.mono (Inc.mem (by walk_at "inc"))) (htW.mono (Inc.mem (by walk_at "inc"))) (by first | ktr_units | (simp only [units_in1, units_deeper, Around.mark_units, units_caller]; decide)) ?_
          walk_at "st9"
          refine goes_X (by k_asm) (by assumption) (fun h2 v2 F2 N2 => ?_)
          (try dsimp only)
          (repeat refine' Kon.ret (by assumption) ?_); (try dsimp only); refine hK9 _ _ ?_
          unfold TurnQ
          (try dsimp only)
          walk_at "st9"
          all_goals (k_end; kc_close)
    -- END
    · (refine Gen fun gG9 gK9 => ?_; obtain ⟨M3, xs3, H3, S3, J3, hp3, mvs, k5, vals, o4, R3, ⟨mw3, mm3⟩, rfl, ho4, hM3, hx3, hH3, hlen3, hS3, hrun, hvl, hbd, hmade, hSt3, hW3⟩ := hJ; refine gK9 ?_; clear gK9 gG9)
      dsimp only [List.cons_append, List.nil_append] at N1 D1
      refine m_inst hM3 ?_; intro dma xl cd rt bg hs ks ws u0 n0 hm1' hm2' hm3'
      refine store_inst hH3 ?_; intro dst3 hl3 stk3 trl3 g1 g2 g3 g4 g5 g6 g7 q1 q2 q3 q4 q5 q6 q7 y1 y2 y3 vs3 n3 hI31 hI32 hI33 hV3
      rw [show new8.length = (x8.post 0).length from hSt3.1, List.take_length] at hrun
      (refine Gen fun gG9 gK9 => ?_; obtain ⟨ws', v9, hvs, hev9⟩ := run_done hrun; refine gK9 ?_; clear gK9 gG9)
      obtain ⟨u9', hW9⟩ : ∃ u, W = .int v9 u := by
        rcases hW3 with ⟨v, u, e1, e2⟩ | ⟨er, e1, _⟩
        · rw [hev9] at e2; cases e2; exact ⟨u, e1⟩
        · rw [hev9] at e1; cases e1
      subst hW9
      (refine Gen fun gG9 gK9 => ?_; obtain ⟨a9, p9, hma, hca, hpa⟩ := hmade.2 ws'.length v9 (by rw [hvs, List.getElem?_append_right (Nat.le_refl _), Nat.sub_self]; rfl); refine gK9 ?_; clear gK9 gG9)
      obtain ⟨mv0, hmv⟩ : ∃ mv0, mvs = mv0 ++ [.ref a9] := by
        have hl : mvs.length = ws'.length + 1 := by rw [hmade.1, hvs, List.length_append]; rfl
        refine ⟨mvs.take ws'.length, ?_⟩
        have e1 := List.take_add_one (l := mvs) (i := ws'.length)
        rw [← hl, List.take_length, hma] at e1
        exact e1
      subst hmv
      have hz3 : hp3.length < 100000 := by have h1 := hSt3.1; rw [Tm.post_length] at h1; walk_at "ar"
      have hd3 : Der hp3 1 (0, (p9 : Int)) (5, v9) := .step (by simp) (.val (by simp) (by simp)) (by walk_at "ar") (by simpa using hpa)
      k_sweep
      (try dsimp only)
      rename World => wl95Z
      k_with "mine call" => guard_hyp wl95Z; (k_dflt (refine' go2n (e := deref_R_pt) (P := H3) (P2 := J3) (deref_tells hH3 hca hz3 hd3) ?B457 ?F457 ?X457 ?N457 ?T457 ?hk457 ?d457 ?r457 ?rr457 ?hd457 ?hu457 ?_; (case B457 => k_asm); (case F457 => k_asm); (case X457 => k_asm); (case N457 => k_asm); (case T457 => k_asm); (case hk457 => first | exact rfl | assumption); (case d457 => walk_at "dmx"); (case r457 => walk_at "rot"); (case rr457 => walk_at "rot"); (case hd457 => walk_at "hdx"); (case hu457 => walk_at "hux"); intro at6 hat6 h9 tk9 F9 N9 D9; (refine Gen fun gG9 gK9 => ?_; obtain ⟨ta6, ta6', ka6, hta6⟩ := id hat6; refine gK9 ?_; clear gK9 gG9); replace hta6 : (at6, tupO [.int 5 ta6, .int v9 ta6'] ka6) ∈ J3 := hta6; (try dsimp only [List.cons_append, List.nil_append] at N9 D9); (try k_sweep); (try dsimp only)))
      walk_at "st9"
      (try any_goals (first | exact Str.empty | exact (show Nat from 0) | exact (show Addr from (0 : Nat)) | exact Value.none))
      all_goals (k_end; kc_close)
end Mine
theorem PySem.Challenge.cw_sa0166_01_holds : PySem.Challenge.rw_sa0166_01.Holds :=
  Mine.done
