import PyProof.Rows.All
import Wide.All
import OpenK.AllK
import Wide.FinOn
import PySem.Challenge.RW_pq0031_01
open PySem PySem.W PySem.Calls PyProof.Rows
set_option Elab.async false
set_option maxRecDepth 100000
set_option maxHeartbeats 8000000
set_option linter.unusedVariables false
namespace Mine
set_option hygiene false in
local macro_rules | `(tactic| walk_at "om") => `(tactic| (first
    | assumption
    | exact Nat.le_refl _
    | exact Nat.le_of_ble_eq_true rfl
    | exact Ne.symm (by assumption)
    | exact Nat.le_trans (by assumption) (Nat.le_of_ble_eq_true rfl)
    | exact Nat.lt_of_le_of_lt (by assumption) (Nat.le_of_ble_eq_true rfl)
    | exact Nat.le_of_lt_succ (Nat.lt_of_lt_of_le (by assumption) (by assumption))
    | exact Nat.le_trans (Nat.le_of_lt (by assumption)) (by assumption)
    | exact Nat.succ_le_succ (Nat.zero_le _)
    | with_reducible exact turn_lt (by assumption) (by assumption)
    | with_reducible exact sub_add_le (by assumption)
    | with_reducible exact Nat.le_sub_of_add_le (by assumption)
    | with_reducible exact (Int.toNat_of_nonneg (by assumption)).symm
    | with_reducible exact h39 (Nat.le_trans (by assumption) (Nat.le_of_ble_eq_true rfl))
    | with_reducible exact Int.natCast_nonneg _
    | decide
    | omega))
/-- the text as far as its own names go -/
noncomputable def lawView : Program := view PySem.Challenge.pw_pq0031_01 [1, 2, 4, 5, 7, 8, 9, 10, 12, 13, 14, 15, 16, 17, 18, 19, 20, 21, 22, 23]
theorem said : PySem.Challenge.rw_pq0031_01.wellSaid = true := by
  unfold OpenLaw.wellSaid OpenRow.wellSaid OpenRow.partSaid looksOpen
  repeat' (with_reducible refine look_both ?_ ?_)
  all_goals decide +kernel
theorem openEnds_of {p : Program} {N : Nat} {w : World} {α : Type} {f : Shared → α} {r : Option α} (b : (fencedOpening treeTable p w N).map (fun s => (s.heap, s.gens, s.drawn, s.toks)) = some (boot_heap w.params, Array.mk [], boot_drawn, boot_toks))
    (h : ∀ os, (topFrom treeTable p w N ⟨boot_heap w.params, Array.mk [], boot_drawn, boot_toks, os⟩).map f = r) : (openEnds treeTable p w N).map f = r := by
  obtain ⟨s₀, e, hv⟩ := Option.map_eq_some_iff.mp b
  obtain ⟨hp, g, d, t, os⟩ := s₀
  simp only [Prod.mk.injEq] at hv
  obtain ⟨rfl, rfl, rfl, rfl⟩ := hv
  unfold openEnds
  rw [e]
  exact h os
theorem bo (w : World) : (fencedOpening treeTable PySem.Challenge.rw_pq0031_01.row.toRowW.prog w 3354).map (fun s => (s.heap, s.gens, s.drawn, s.toks)) = some (boot_heap w.params, Array.mk [], boot_drawn, boot_toks) :=
  boot_open (by exact rfl) rfl (fun s => by exact rfl) w
local macro_rules | `(tactic| o_head $H) => `(tactic| (
  refine holds_open (q := lawView) (loose := []) (Xt := fun s => xlAt lawView [] s && recOk (RowW.records PySem.Challenge.rw_pq0031_01.row.toRowW) s) (XP := XL lawView []) (Yf := Hook.obs $H) (Ya := Hook.val $H) (YP := Hook.says $H) (N := 3354)
    ?hl (Hook.of $H) (Hook.keeps $H) (fun s e => xl_of s (Bool.and_eq_true_iff.mp e).1) XL.keeps (by rfl) (by rfl) (by rfl) (fun s e => recFacts_of (Bool.and_eq_true_iff.mp e).2) (by rfl) (by first | assumption | decide +kernel) (by decide +kernel) ⟨rfl, rfl, rfl, rfl, rfl, by decide +kernel⟩ ?hw ?hc
  case hl =>
    intro w
    refine openEnds_of (bo w) fun os => ?_
    unfold topFrom
    rw [PySem.W.Fast.te14364793385576792824, PySem.W.Fast.te4187177175401517315, PySem.W.Fast.te14082659384304107361]
    kernel_rfl))
local macro_rules | `(tactic| o_law) => `(tactic| refine holds_law said fun said => ?_)
open_top hd for PySem.Challenge.rw_pq0031_01
theorem turn_lt {k m i : Nat} (h : k = m + 1 - i) (l : i < m) : m + 1 - (i + 1) < k := by omega
theorem sub_add_le {f n : Nat} (h : f + 1 ≤ n) : n - 1 + 1 ≤ n := by omega
theorem h39 {a : Nat} (h : a ≤ 7) : 3 * a + 9 ≤ 40 := by omega

inductive Lf | a | b | x | y | u | h
deriving DecidableEq
noncomputable def Lf.str : Lf → Str
  | .a => (Str.ofString "a") | .b => (Str.ofString "b") | .x => (Str.ofString "?x") | .y => (Str.ofString "?y") | .u => (Str.ofString "u") | .h => (Str.ofString "h")
inductive Tm | L (l : Lf) | F (t : Tm) | G (s t : Tm)
deriving DecidableEq

noncomputable abbrev Ext (h h' : Heap) : Prop := ∀ b o, h.get? b = some o → h'.get? b = some o
noncomputable def isVar : Tm → Bool
  | .L .x => true
  | .L .y => true
  | _ => false

structure Bs (w : World) (mean : ExcName → Option Value) (mg mb : Str → Option Value) (h : Heap) : Prop where
  X : (hd.heap_1 w.params).In h
  T : Top lawView (looseW lawView []) mean mg mb h

theorem Bs.mono {w : World} {mean : ExcName → Option Value} {mg mb : Str → Option Value} {h h' : Heap} (x : Bs w mean mg mb h) (e : Ext h h') : Bs w mean mg mb h' := ⟨x.X.keeps e, x.T.keeps e⟩

/-! ## pure data -/
inductive PV where
  | none
  | bool (b : Bool)
  | int (i : Int)
  | str (s : Str)
  | tup (l : List PV)
  | inst (fs : List (Str × PV))
  | loc (n : Nat)
  | ilist (ns : List Int)
inductive PObj where
  | list (l : List PV)
  | sd (kvs : List (Str × PV)) (ep : Nat)
  | td (kvs : List (PV × PV))

noncomputable abbrev Fz := Addr → Option Obj

mutual
inductive VR (g : Fz) (ads : List Addr) : Value → PV → Prop
  | none : VR g ads .none .none
  | bool (b : Bool) : VR g ads (.bool b) (.bool b)
  | int (i : Int) (t : Tok) : VR g ads (.int i t) (.int i)
  | str (s : Str) (t : Tok) : VR g ads (.str s t) (.str s)
  | tup {a : Addr} {vs : List Value} {n : Nat} {l : List PV} : g a = some { cls := .type "tuple", data := .seq vs.toArray n } → VRs g ads vs l → VR g ads (.ref a) (.tup l)
  | inst {a dx : Addr} {es : List DictEntry} {n : Nat} {fs : List (Str × PV)} : g a = some (instObj 150 dx) → g dx = some (dictOf es n) → VRf g ads es fs → VR g ads (.ref a) (.inst fs)
  | loc {a : Addr} {n : Nat} : ads[n]? = some a → VR g ads (.ref a) (.loc n)
  | ilist {a : Addr} {o : Obj} {vs : List Value} {n : Nat} {ns : List Int} : g a = some o → o.cls = .type "list" → o.data = .seq vs.toArray n → IntsAre vs ns → VR g ads (.ref a) (.ilist ns)
inductive VRs (g : Fz) (ads : List Addr) : List Value → List PV → Prop
  | nil : VRs g ads [] []
  | cons {v : Value} {vs : List Value} {p : PV} {ps : List PV} : VR g ads v p → VRs g ads vs ps → VRs g ads (v :: vs) (p :: ps)
inductive VRf (g : Fz) (ads : List Addr) : List DictEntry → List (Str × PV) → Prop
  | nil : VRf g ads [] []
  | cons {hsh : Int} {x : Str} {t : Tok} {v : Value} {p : PV} {es : List DictEntry} {fs : List (Str × PV)} : VR g ads v p → VRf g ads es fs → VRf g ads (⟨hsh, .str x t, v⟩ :: es) ((x, p) :: fs)
end

section
variable {g g' : Fz} {ads ads' : List Addr}
theorem VR.mono (hg : ∀ a o, g a = some o → g' a = some o) (ha : ∀ (n : Nat) (a : Addr), ads[n]? = some a → ads'[n]? = some a) {v : Value} {p : PV} (h : VR g ads v p) : VR g' ads' v p :=
  VR.rec (motive_1 := fun v p _ => VR g' ads' v p) (motive_2 := fun v p _ => VRs g' ads' v p) (motive_3 := fun v p _ => VRf g' ads' v p) .none (fun b => .bool b) (fun i t => .int i t) (fun s t => .str s t)
    (fun h r ih => .tup (hg _ _ h) ih) (fun h k r ih => .inst (hg _ _ h) (hg _ _ k) ih) (fun h => .loc (ha _ _ h)) (fun e c d r => .ilist (hg _ _ e) c d r) .nil (fun h r i j => .cons i j) .nil (fun h r i j => .cons i j) h
theorem VRs.mono (hg : ∀ a o, g a = some o → g' a = some o) (ha : ∀ (n : Nat) (a : Addr), ads[n]? = some a → ads'[n]? = some a) {v : List Value} {p : List PV} (h : VRs g ads v p) : VRs g' ads' v p :=
  VRs.rec (motive_1 := fun v p _ => VR g' ads' v p) (motive_2 := fun v p _ => VRs g' ads' v p) (motive_3 := fun v p _ => VRf g' ads' v p) .none (fun b => .bool b) (fun i t => .int i t) (fun s t => .str s t)
    (fun h r ih => .tup (hg _ _ h) ih) (fun h k r ih => .inst (hg _ _ h) (hg _ _ k) ih) (fun h => .loc (ha _ _ h)) (fun e c d r => .ilist (hg _ _ e) c d r) .nil (fun h r i j => .cons i j) .nil (fun h r i j => .cons i j) h
theorem VRs.ind {P : List Value → List PV → Prop} (h0 : P [] []) (h1 : ∀ {v : Value} {vs : List Value} {p : PV} {ps : List PV}, VR g ads v p → VRs g ads vs ps → P vs ps → P (v :: vs) (p :: ps)) {vs : List Value} {ps : List PV} (h : VRs g ads vs ps) : P vs ps :=
  VRs.rec (motive_1 := fun _ _ _ => True) (motive_2 := fun a b _ => P a b) (motive_3 := fun _ _ _ => True) trivial (fun _ => trivial) (fun _ _ => trivial) (fun _ _ => trivial) (fun _ _ _ => trivial) (fun _ _ _ _ => trivial) (fun _ => trivial) (fun _ _ _ _ => trivial)
    h0 (fun a b _ ih => h1 a b ih) trivial (fun _ _ _ _ => trivial) h
theorem VRf.ind {P : List DictEntry → List (Str × PV) → Prop} (h0 : P [] []) (h1 : ∀ {hsh : Int} {x : Str} {t : Tok} {v : Value} {p : PV} {es : List DictEntry} {fs : List (Str × PV)}, VR g ads v p → VRf g ads es fs → P es fs → P (⟨hsh, .str x t, v⟩ :: es) ((x, p) :: fs)) {es : List DictEntry} {fs : List (Str × PV)} (h : VRf g ads es fs) : P es fs :=
  VRf.rec (motive_1 := fun _ _ _ => True) (motive_2 := fun _ _ _ => True) (motive_3 := fun a b _ => P a b) trivial (fun _ => trivial) (fun _ _ => trivial) (fun _ _ => trivial) (fun _ _ _ => trivial) (fun _ _ _ _ => trivial) (fun _ => trivial) (fun _ _ _ _ => trivial)
    trivial (fun _ _ _ _ => trivial) h0 (fun a b _ ih => h1 a b ih) h
end

theorem VRs.length {g : Fz} {ads : List Addr} {vs : List Value} {ps : List PV} (h : VRs g ads vs ps) : vs.length = ps.length :=
  VRs.ind (P := fun vs ps => vs.length = ps.length) rfl (fun _ _ ih => congrArg Nat.succ ih) h
theorem VRs.get {g : Fz} {ads : List Addr} {vs : List Value} {ps : List PV} (h : VRs g ads vs ps) {k : Nat} {p : PV} (e : ps[k]? = some p) : ∃ v, vs[k]? = some v ∧ VR g ads v p :=
  VRs.ind (P := fun vs ps => ∀ (k : Nat) (p : PV), ps[k]? = some p → ∃ v, vs[k]? = some v ∧ VR g ads v p) (fun k p h => by simp at h) (fun {v vs q qs} hv _ ih k p h => by
    cases k with
    | zero => exact ⟨v, rfl, Option.some.inj h ▸ hv⟩
    | succ k => exact ih k p h) h k p e
theorem VRs.append {g : Fz} {ads : List Addr} {vs ws : List Value} {ps qs : List PV} (h : VRs g ads vs ps) (k : VRs g ads ws qs) : VRs g ads (vs ++ ws) (ps ++ qs) :=
  VRs.ind (P := fun vs ps => VRs g ads (vs ++ ws) (ps ++ qs)) k (fun a _ ih => .cons a ih) h
theorem VRs.drop {g : Fz} {ads : List Addr} {vs : List Value} {ps : List PV} (n : Nat) (h : VRs g ads vs ps) : VRs g ads (vs.drop n) (ps.drop n) :=
  VRs.ind (P := fun vs ps => ∀ n, VRs g ads (vs.drop n) (ps.drop n)) (fun n => by rw [List.drop_nil, List.drop_nil]; exact .nil) (fun a b ih n => by
    cases n with
    | zero => exact .cons a b
    | succ n => exact ih n) h n
theorem VRs.take {g : Fz} {ads : List Addr} {vs : List Value} {ps : List PV} (n : Nat) (h : VRs g ads vs ps) : VRs g ads (vs.take n) (ps.take n) :=
  VRs.ind (P := fun vs ps => ∀ n, VRs g ads (vs.take n) (ps.take n)) (fun n => by rw [List.take_nil, List.take_nil]; exact .nil) (fun a b ih n => by
    cases n with
    | zero => exact .nil
    | succ n => exact .cons a (ih n)) h n


/-! ## data without places -/
noncomputable def keyOk : Nat → PV → Bool
  | _, .str s => PyData.strOk s
  | n + 1, .tup l => l.all (keyOk n)
  | _, _ => false
noncomputable def dtOk : Nat → PV → Bool
  | _, .none => true
  | _, .bool _ => true
  | _, .int _ => true
  | _, .str s => PyData.strOk s
  | n + 1, .tup l => l.all (dtOk n)
  | _, _ => false
mutual
noncomputable def toPy : PV → PyData
  | .none => .none
  | .bool b => .bool b
  | .int i => .int i
  | .str s => .str s
  | .tup l => .tuple (toPys l)
  | .inst _ => .none
  | .loc _ => .none
  | .ilist _ => .none
noncomputable def toPys : List PV → List PyData
  | [] => []
  | p :: ps => toPy p :: toPys ps
end
theorem dtOk_of_keyOk : ∀ (n : Nat) (p : PV), keyOk n p = true → dtOk n p = true := by
  intro n
  induction n with
  | zero => intro p h; cases p <;> simp_all [keyOk, dtOk]
  | succ n ih =>
    intro p h
    cases p with
    | tup l =>
      simp only [keyOk, dtOk, List.all_eq_true] at h ⊢
      exact fun x hx => ih x (h x hx)
    | _ => simp_all [keyOk, dtOk]

mutual
/-- the datum lies at the value -/
inductive Lies1 (h : Heap) : Value → PV → Prop
  | none : Lies1 h .none .none
  | bool (b : Bool) : Lies1 h (.bool b) (.bool b)
  | int (i : Int) (t : Tok) : Lies1 h (.int i t) (.int i)
  | str (s : Str) (t : Tok) : Lies1 h (.str s t) (.str s)
  | tup {a : Addr} {vs : List Value} {n : Nat} {l : List PV} : h.get? a = some { cls := .type "tuple", data := .seq vs.toArray n } → Lies1s h vs l → Lies1 h (.ref a) (.tup l)
inductive Lies1s (h : Heap) : List Value → List PV → Prop
  | nil : Lies1s h [] []
  | cons {v : Value} {vs : List Value} {p : PV} {ps : List PV} : Lies1 h v p → Lies1s h vs ps → Lies1s h (v :: vs) (p :: ps)
end
theorem Lies1.keepsT {h h' : Heap} (hk : ∀ a vs n, h.get? a = some { cls := .type "tuple", data := .seq vs n } → h'.get? a = some { cls := .type "tuple", data := .seq vs n }) {v : Value} {p : PV} (x : Lies1 h v p) : Lies1 h' v p :=
  Lies1.rec (motive_1 := fun v p _ => Lies1 h' v p) (motive_2 := fun v p _ => Lies1s h' v p) .none (fun b => .bool b) (fun i t => .int i t) (fun s t => .str s t) (fun e _ ih => .tup (hk _ _ _ e) ih) .nil (fun _ _ i j => .cons i j) x
theorem Lies1.inj {h : Heap} {v : Value} {p q : PV} (x : Lies1 h v p) (y : Lies1 h v q) : p = q :=
  Lies1.rec (motive_1 := fun v p _ => ∀ q, Lies1 h v q → p = q) (motive_2 := fun v p _ => ∀ q, Lies1s h v q → p = q) (fun q y => by cases y; rfl) (fun b q y => by cases y; rfl) (fun i t q y => by cases y; rfl) (fun s t q y => by cases y; rfl)
    (fun e _ ih q y => by
      cases y with
      | tup e' r' =>
        rw [e] at e'
        cases e'
        rw [ih _ r']) (fun q y => by cases y; rfl) (fun _ _ i j q y => by
      cases y with
      | cons e' r' => rw [i _ e', j _ r']) x q y
theorem Lies1.reads {h : Heap} {v : Value} {p : PV} (x : Lies1 h v p) : ∃ as, Reads h v (toPy p) as :=
  Lies1.rec (motive_1 := fun v p _ => ∃ as, Reads h v (toPy p) as) (motive_2 := fun v p _ => ∃ as, ReadsAll h v (toPys p) as) ⟨_, .none⟩ (fun b => ⟨_, .bool b⟩) (fun i t => ⟨_, .int i t⟩) (fun s t => ⟨_, .str s t⟩)
    (fun e _ ih => ih.elim fun as q => ⟨as, .tuple e rfl rfl (by simpa using q)⟩) ⟨_, .nil⟩ (fun _ _ i j => i.elim fun as q => j.elim fun bs q' => ⟨_, .cons q q'⟩) x
theorem VR.lies {g : Fz} {ads : List Addr} {h : Heap} (hg : ∀ a o, g a = some o → h.get? a = some o) (n : Nat) {v : Value} {p : PV} (x : VR g ads v p) (hk : dtOk n p = true) : Lies1 h v p :=
  VR.rec (motive_1 := fun v p _ => ∀ n, dtOk n p = true → Lies1 h v p) (motive_2 := fun v p _ => ∀ n, (∀ q ∈ p, dtOk n q = true) → Lies1s h v p) (motive_3 := fun _ _ _ => True) (fun _ _ => .none) (fun b _ _ => .bool b) (fun i t _ _ => .int i t) (fun s t _ _ => .str s t)
    (fun e _ ih n hk => by
      cases n with
      | zero => simp [dtOk] at hk
      | succ n => exact .tup (hg _ _ e) (ih n (by simpa [dtOk] using hk))) (fun _ _ _ _ n hk => by cases n <;> simp [dtOk] at hk) (fun _ n hk => by cases n <;> simp [dtOk] at hk) (fun _ _ _ _ n hk => by cases n <;> simp [dtOk] at hk)
    (fun _ _ => .nil) (fun _ _ i j n hk => .cons (i n (hk _ (.head _))) (j n fun q hq => hk q (.tail _ hq))) trivial (fun _ _ _ _ => trivial) x n hk
theorem VRs.lies {g : Fz} {ads : List Addr} {h : Heap} (hg : ∀ a o, g a = some o → h.get? a = some o) (n : Nat) {v : List Value} {p : List PV} (x : VRs g ads v p) (hk : ∀ q ∈ p, dtOk n q = true) : Lies1s h v p :=
  VRs.ind (P := fun v p => (∀ q ∈ p, dtOk n q = true) → Lies1s h v p) (fun _ => .nil) (fun a _ ih hk => .cons (a.lies hg n (hk _ (.head _))) (ih fun q hq => hk q (.tail _ hq))) x hk
theorem Lies1s.reads {h : Heap} {v : List Value} {p : List PV} (x : Lies1s h v p) : ∃ as, ReadsAll h v (toPys p) as :=
  Lies1s.rec (motive_1 := fun _ _ _ => True) (motive_2 := fun v p _ => ∃ as, ReadsAll h v (toPys p) as) trivial (fun _ => trivial) (fun _ _ => trivial) (fun _ _ => trivial) (fun _ _ _ => trivial) ⟨_, .nil⟩ (fun a _ _ j => a.reads.elim fun as q => j.elim fun bs q' => ⟨_, .cons q q'⟩) x
theorem toPy_ok : ∀ (n : Nat) (p : PV), dtOk n p = true → (toPy p).canLay0 = true ∧ (toPy p).depth ≤ n := by
  have all : ∀ (n : Nat), (∀ p, dtOk n p = true → (toPy p).canLay0 = true ∧ (toPy p).depth ≤ n) → ∀ ps : List PV, (∀ p ∈ ps, dtOk n p = true) → PyData.canLayAll0 (toPys ps) = true ∧ PyData.depthAll (toPys ps) ≤ n := by
    intro n ih ps
    induction ps with
    | nil => intro _; simp [toPys, PyData.canLayAll0, PyData.depthAll]
    | cons p ps hi =>
      intro h
      have h1 := ih p (h p (.head _))
      have h2 := hi fun e he => h e (.tail _ he)
      simp only [toPys, PyData.canLayAll0, PyData.depthAll, h1.1, h2.1, Bool.and_self, true_and]
      have a1 := h1.2
      have a2 := h2.2
      omega
  intro n
  induction n with
  | zero =>
    intro p h
    cases p <;> simp_all [dtOk, toPy, PyData.canLay0, PyData.depth]
  | succ n ih =>
    intro p h
    cases p with
    | tup l =>
      have q := all n ih l (by simpa [dtOk] using h)
      have q2 := q.2
      simp only [toPy, PyData.canLay0, PyData.depth, q.1, true_and]
      omega
    | _ => simp_all [dtOk, toPy, PyData.canLay0, PyData.depth]
/-- data of texts alone are the same just when they are equal -/
theorem key_eqv : ∀ (n : Nat) (p q : PV) (k : Nat), keyOk n p = true → keyOk k q = true → (PyData.eqv (toPy p) (toPy q) = true ↔ p = q) := by
  have all : ∀ (n : Nat), (∀ p q k, keyOk n p = true → keyOk k q = true → (PyData.eqv (toPy p) (toPy q) = true ↔ p = q)) → ∀ (k : Nat) (ps qs : List PV), (∀ p ∈ ps, keyOk n p = true) → (∀ p ∈ qs, keyOk k p = true) →
      (PyData.eqvAll (toPys ps) (toPys qs) = true ↔ ps = qs) := by
    intro n ih k ps
    induction ps with
    | nil => intro qs _ _; cases qs <;> simp [toPys, PyData.eqvAll]
    | cons p ps hi =>
      intro qs h1 h2
      cases qs with
      | nil => simp [toPys, PyData.eqvAll]
      | cons q qs =>
        have q1 := ih p q k (h1 p (.head _)) (h2 q (.head _))
        have q2 := hi qs (fun x hx => h1 x (.tail _ hx)) fun x hx => h2 x (.tail _ hx)
        simp only [toPys, PyData.eqvAll, Bool.and_eq_true, q1, q2, List.cons.injEq]
  intro n
  induction n with
  | zero =>
    intro p q k h1 h2
    cases p <;> cases q <;> cases k <;> simp_all [keyOk, toPy, PyData.eqv]
  | succ n ih =>
    intro p q k h1 h2
    cases p with
    | tup l =>
      cases q with
      | tup m =>
        cases k with
        | zero => simp [keyOk] at h2
        | succ k =>
          simp only [toPy, PyData.eqv, PV.tup.injEq]
          exact all n ih k l m (by simpa [keyOk] using h1) (by simpa [keyOk] using h2)
      | _ => cases k <;> simp_all [keyOk, toPy, PyData.eqv]
    | _ => cases q <;> cases k <;> simp_all [keyOk, toPy, PyData.eqv]

/-! ## tuples of texts as keys -/
mutual
noncomputable def phash (w : World) : PV → Int
  | .str s => hashStr w s
  | .tup l => reduceHash (Builtin.Tuple.tupleHashOf (phashs w l))
  | _ => 0
noncomputable def phashs (w : World) : List PV → List Int
  | [] => []
  | p :: ps => phash w p :: phashs w ps
end
mutual
noncomputable def pdraws : PV → Nat
  | .tup l => pdrawss l + 1
  | _ => 1
noncomputable def pdrawss : List PV → Nat
  | [] => 0
  | p :: ps => pdraws p + pdrawss ps
end
theorem pyHash_deep {prog : Program} {w : World} {E : Value → Shared → Prop} : ∀ (n : Nat) (p : PV) (v : Value) (A : Around) (s : Shared) (Q : Int → Shared → Prop), keyOk n p = true → Lies1 s.heap v p → A.units + n < cLine → Q (phash w p) { s with toks := s.toks + pdraws p } →
    wpAny (model prog w) A (pyHash v) Q E s := by
  intro n
  induction n with
  | zero =>
    intro p v A s Q hk hl hu h
    cases hl with
    | str x t => exact wpAny_pyHash_str h
    | _ => simp [keyOk] at hk
  | succ n ih =>
    intro p v A s Q hk hl hu h
    cases hl with
    | str x t => exact wpAny_pyHash_str h
    | none => simp [keyOk] at hk
    | bool b => simp [keyOk] at hk
    | int i t => simp [keyOk] at hk
    | @tup a vs m l e r =>
      have hT : s.TypeIs (.ref a) "tuple" := ⟨_, e, rfl⟩
      unfold pyHash
      first | unfold pyHashByItsType | skip
      first | refine wpAny_bind (wpAny_cRoomFor_or (.inr (by walk_at "om")) ?_) | skip
      refine wpAny_bind (wpAny_specialOf hT F.slot_tuple_hash.lookup ?_)
      show wpAny _ _ (if (some (Value.builtin "tuple.__hash__") == some Value.none) = true then _ else _) Q E s
      rw [if_neg (by rw [beq_builtin_none]; exact Bool.false_ne_true)]
      refine wpAny_bind (wpAny_specialOf hT F.slot_tuple_hash.lookup ?_)
      show wpAny _ _ (callSpecialIfBoundUnlessNone? (.ref a) "__hash__" _ >>= _) Q E s
      refine wpAny_bind (wpAny_callSpecialIfBoundUnlessNone?_slot hT F.slot_tuple_hash (wpAny_call_entry F.slot_tuple_hash hT F.entry_tuple_hash ?_ (F.args_tuple_hash_1 _)))
      show wpAny _ _ (Builtin.Tuple.tupleItemsOf (.ref a) >>= _) _ _ s
      refine wpAny_bind (wpAny_tupleItemsOf e rfl ?_)
      refine wpAny_bind ?_
      rw [← Array.forIn_toList]
      have hall : ∀ q ∈ l, keyOk n q = true := by simpa [keyOk] using hk
      refine wpAny_forIn_list _
        (fun rest (b : Array Int) s' => ∃ done left, l = done ++ left ∧ Lies1s s.heap rest left ∧ b.toList = phashs w done ∧ s' = { s with toks := s.toks + pdrawss done })
        _ ?_ ?_ _ _ ⟨[], l, rfl, r, rfl, rfl⟩
      · rintro x rest b s' ⟨done, left, hdl, hl, hb, rfl⟩
        cases hl with
        | @cons _ _ k ks' h1 hl' =>
          have app : ∀ (xs : List PV) (y : PV), phashs w (xs ++ [y]) = phashs w xs ++ [phash w y] := by
            intro xs y
            induction xs with
            | nil => simp [phashs]
            | cons z zs ihz => simp [phashs, ihz]
          have apd : ∀ (xs : List PV) (y : PV), pdrawss (xs ++ [y]) = pdrawss xs + pdraws y := by
            intro xs y
            induction xs with
            | nil => simp [pdrawss]
            | cons z zs ihz => simp [pdrawss, ihz, Nat.add_assoc]
          have step : ∃ d l', l = d ++ l' ∧ Lies1s s.heap rest l' ∧ (b.push (phash w k)).toList = phashs w d ∧ ({ ({ s with toks := s.toks + pdrawss done } : Shared) with toks := ({ s with toks := s.toks + pdrawss done } : Shared).toks + pdraws k } : Shared) = { s with toks := s.toks + pdrawss d } :=
            ⟨done ++ [k], ks', by simp [hdl], hl', by simp [hb, app], by simp [apd, Nat.add_assoc]⟩
          refine wpAny_bind (ih k x _ _ _ (hall k (by rw [hdl]; simp)) h1 (by show A.units + 1 + n < cLine; omega) ?_)
          first
            | exact wpAny_pure step
            | exact wpAny_bind (wpAny_pure (wpAny_pure step))
      · rintro b s' ⟨done, left, hdl, hl, hb, rfl⟩
        cases hl
        rw [List.append_nil] at hdl
        subst hdl
        show wpAny _ _ (retInt (Builtin.Tuple.tupleHashOf b.toList)) _ _ _
        rw [hb]
        refine wpAny_ret_mkInt ?_
        show wpAny _ _ (if (decide (-(2 : Int) ^ 63 ≤ Builtin.Tuple.tupleHashOf (phashs w l)) && decide (Builtin.Tuple.tupleHashOf (phashs w l) < 2 ^ 63)) = true then _ else _) Q E _
        unfold phash pdraws reduceHash at h
        by_cases hr : (decide (-(2 : Int) ^ 63 ≤ Builtin.Tuple.tupleHashOf (phashs w l)) && decide (Builtin.Tuple.tupleHashOf (phashs w l) < 2 ^ 63)) = true
        · rw [if_pos hr]
          rw [if_pos hr] at h
          exact wpAny_pure (by simpa [Nat.add_assoc] using h)
        · rw [if_neg hr]
          rw [if_neg hr] at h
          exact wpAny_bind (wpAny_rule (wpAny_pure (by simpa [Nat.add_assoc] using h)))

theorem quiet_deep {prog : Program} {w : World} {E : Value → Shared → Prop} : ∀ (n : Nat) (p : PV) (v : Value) (A : Around) (s : Shared) (Q : Bool → Shared → Prop), keyOk n p = true → Lies1 s.heap v p → Q true s → wpAny (model prog w) A (eqIsQuiet n v) Q E s := by
  intro n
  induction n with
  | zero =>
    intro p v A s Q hk hl h
    cases hl with
    | str x t => rw [eqIsQuiet_byValue 0 (v := .str x t) rfl]; exact wpAny_pure h
    | _ => simp [keyOk] at hk
  | succ n ih =>
    intro p v A s Q hk hl h
    cases hl with
    | str x t => rw [eqIsQuiet_byValue _ (v := .str x t) rfl]; exact wpAny_pure h
    | none => simp [keyOk] at hk
    | bool b => simp [keyOk] at hk
    | int i t => simp [keyOk] at hk
    | @tup a vs m l e r =>
      have hT : s.TypeIs (.ref a) "tuple" := ⟨_, e, rfl⟩
      have hall : ∀ q ∈ l, keyOk n q = true := by simpa [keyOk] using hk
      unfold eqIsQuiet
      refine wpAny_bind (wpAny_specialOf hT F.slot_tuple_eq.lookup ?_)
      show wpAny _ _ (isInstance (.ref a) (.type "tuple") >>= _) _ _ s
      refine wpAny_bind (wpAny_isInstance hT isSubtype_tuple_tuple ?_)
      simp only [Bool.not_true, Bool.false_eq_true, if_false]
      refine wpAny_bind (wpAny_seqItems e rfl ?_)
      refine wpAny_bind ?_
      show wpAny _ _ (forIn vs.toArray _ _) _ _ s
      rw [← Array.forIn_toList]
      refine wpAny_forIn_list _ (fun rest r s' => r.1 = none ∧ s' = s ∧ ∃ left, Lies1s s.heap rest left ∧ ∀ q ∈ left, keyOk n q = true) _ ?_ ?_ _ _ ⟨rfl, rfl, l, r, hall⟩
      · rintro v rest r s' ⟨hr, rfl, left, hl, hq⟩
        cases hl with
        | cons h1 h2 =>
          refine wpAny_bind (ih _ _ _ _ _ (hq _ (.head _)) h1 ?_)
          simp only [Bool.not_true, Bool.false_eq_true, if_false]
          exact wpAny_pure ⟨rfl, rfl, _, h2, fun q hq' => hq q (.tail _ hq')⟩
      · rintro ⟨r1, r2⟩ s' ⟨hr, rfl, _⟩
        simp only at hr
        subst hr
        exact wpAny_pure h

open Classical in
/-- the kind of such keys -/
noncomputable def tk (prog : Program) (w : World) : HeapKind prog w PV where
  is := fun h p a => Lies1 h (.ref a) p ∧ keyOk 8 p = true
  hash := phash w
  draws := pdraws
  room := fun A => A.units + 20 < cLine
  inj := fun x y => x.1.inj y.1
  keeps := fun {h h' k a d o es ep} x ho hd hs => ⟨x.1.keepsT fun b vs n e => (hs.2 b fun q => by subst q; rw [ho] at e; cases e; cases hd).trans e, x.2⟩
  pyHash := fun {A E s k a Q} hu x h => pyHash_deep 8 k (.ref a) A s Q x.2 x.1 (Nat.lt_of_le_of_lt (Nat.add_le_add_left (by decide) _) hu) h
  eqBool := fun {A E s p q a b Q} hu x y h => by
    obtain ⟨as, ra⟩ := x.1.reads
    obtain ⟨bs, rb⟩ := y.1.reads
    have o1 := toPy_ok 8 p (dtOk_of_keyOk 8 p x.2)
    have o2 := toPy_ok 8 q (dtOk_of_keyOk 8 q y.2)
    refine PySem.SeqAt.eqBoolOverData prog w A E s (.ref a) (.ref b) (toPy p) (toPy q) as bs Q ra rb o1.1 o2.1 ?_ ?_
    · have := Nat.min_le_left (toPy p).depth (toPy q).depth
      have := o1.2
      have : A.units + 20 < cLine := hu
      omega
    · have : PyData.eqv (toPy p) (toPy q) = decide (p = q) := by
        by_cases e : p = q
        · rw [decide_eq_true e]; exact (key_eqv 8 p q 8 x.2 y.2).mpr e
        · rw [decide_eq_false e]; exact Bool.eq_false_iff.mpr fun z => e ((key_eqv 8 p q 8 x.2 y.2).mp z)
      rw [this]; exact h
  quiet := fun {A E s k a Q} x h => quiet_deep 8 k (.ref a) A s Q x.2 x.1 h
structure PW where
  prog : Program
  w : World

inductive VRk (g : Fz) (ads : List Addr) : List (Str × Value) → List (Str × PV) → Prop
  | nil : VRk g ads [] []
  | cons {x : Str} {v : Value} {p : PV} {es : List (Str × Value)} {kvs : List (Str × PV)} : VR g ads v p → VRk g ads es kvs → VRk g ads ((x, v) :: es) ((x, p) :: kvs)
inductive VRt (g : Fz) (ads : List Addr) : List (PV × Addr × Value) → List (PV × PV) → Prop
  | nil : VRt g ads [] []
  | cons {a : Addr} {v : Value} {p q : PV} {es : List (PV × Addr × Value)} {kvs : List (PV × PV)} : VR g ads (.ref a) p → keyOk 8 p = true → VR g ads v q → VRt g ads es kvs → VRt g ads ((p, a, v) :: es) ((p, q) :: kvs)
theorem VRk.mono {g g' : Fz} {ads ads' : List Addr} (hg : ∀ a o, g a = some o → g' a = some o) (ha : ∀ (n : Nat) (a : Addr), ads[n]? = some a → ads'[n]? = some a) {es : List (Str × Value)} {kvs : List (Str × PV)}
    (x : VRk g ads es kvs) : VRk g' ads' es kvs := by
  induction x with
  | nil => exact .nil
  | cons h _ ih => exact .cons (h.mono hg ha) ih
theorem VRt.mono {g g' : Fz} {ads ads' : List Addr} (hg : ∀ a o, g a = some o → g' a = some o) (ha : ∀ (n : Nat) (a : Addr), ads[n]? = some a → ads'[n]? = some a) {es : List (PV × Addr × Value)} {kvs : List (PV × PV)}
    (x : VRt g ads es kvs) : VRt g' ads' es kvs := by
  induction x with
  | nil => exact .nil
  | cons h k h' _ ih => exact .cons (h.mono hg ha) k (h'.mono hg ha) ih

open Classical in
inductive OR (P : PW) (g : Fz) (ads : List Addr) (h : Heap) (a : Addr) : PObj → Prop
  | list {vs : List Value} {n : Nat} {l : List PV} : h.get? a = some (listOf vs.toArray n) → VRs g ads vs l → OR P g ads h a (.list l)
  | sd {kvs' : List (Str × Value)} {kvs : List (Str × PV)} {ep : Nat} : h.DictAt (PySem.strKind P.prog P.w) a kvs' ep → VRk g ads kvs' kvs → OR P g ads h a (.sd kvs ep)
  | td {o : Obj} {es : Array DictEntry} {ep : Nat} {xs : List (PV × Addr × Value)} {kvs : List (PV × PV)} : h.get? a = some o → o.ExactDict → o.data = .dict es ep → es.toList = xs.map (entryOfKey (tk P.prog P.w)) → (xs.map (·.1)).Nodup → VRt g ads xs kvs → OR P g ads h a (.td kvs)

theorem OR.mono {P : PW} {g g' : Fz} {ads ads' : List Addr} {h h' : Heap} {a : Addr} {po : PObj} (hg : ∀ a o, g a = some o → g' a = some o) (ha : ∀ (n : Nat) (a : Addr), ads[n]? = some a → ads'[n]? = some a)
    (hk : ∀ o, h.get? a = some o → h'.get? a = some o) (x : OR P g ads h a po) : OR P g' ads' h' a po := by
  cases x with
  | list e r => exact .list (hk _ e) (r.mono hg ha)
  | sd e r =>
    obtain ⟨o, es, ho, q⟩ := e
    exact .sd ⟨o, es, hk _ ho, q⟩ (r.mono hg ha)
  | td e1 e2 e3 e4 e5 r => exact .td (hk _ e1) e2 e3 e4 e5 (r.mono hg ha)
theorem OR.there {P : PW} {g : Fz} {ads : List Addr} {h : Heap} {a : Addr} {po : PObj} (x : OR P g ads h a po) : ∃ o, h.get? a = some o := by
  cases x with
  | list e r => exact ⟨_, e⟩
  | sd e r => obtain ⟨o, _, ho, _⟩ := e; exact ⟨o, ho⟩
  | td e1 _ _ _ _ r => exact ⟨_, e1⟩

structure Sim (P : PW) (g : Fz) (ads : List Addr) (st : List PObj) (h : Heap) : Prop where
  gh : ∀ a o, g a = some o → h.get? a = some o
  nd : ads.Nodup
  ag : ∀ a ∈ ads, g a = none
  hi : ∀ a ∈ ads, mainGlobals < a
  len : ads.length = st.length
  ob : ∀ (n : Nat) (a : Addr) (po : PObj), ads[n]? = some a → st[n]? = some po → OR P g ads h a po

structure Nx (own : List Addr) (g : Fz) (ads : List Addr) (h : Heap) (g' : Fz) (ads' : List Addr) (h' : Heap) : Prop where
  gsub : ∀ a o, g a = some o → g' a = some o
  asub : ∃ more, ads' = ads ++ more
  keep : ∀ b o, b ∉ ads → b ∉ own → h.get? b = some o → h'.get? b = some o
  gnew : ∀ a, g a = none → ∀ o, g' a = some o → h.get? a = none
  anew : ∀ a ∈ ads', a ∉ ads → h.get? a = none
  dom : ∀ b, (h.get? b).isSome = true → (h'.get? b).isSome = true

theorem Nx.idx {own : List Addr} {g g' : Fz} {ads ads' : List Addr} {h h' : Heap} (x : Nx own g ads h g' ads' h') (n : Nat) (a : Addr) (e : ads[n]? = some a) : ads'[n]? = some a := by
  obtain ⟨more, rfl⟩ := x.asub
  obtain ⟨hl, _⟩ := List.getElem?_eq_some_iff.mp e
  rw [List.getElem?_append_left hl]
  exact e
theorem Nx.refl (own : List Addr) (g : Fz) (ads : List Addr) (h : Heap) : Nx own g ads h g ads h :=
  ⟨fun a b e => e, ⟨[], by simp⟩, fun _ _ _ _ e => e, fun a n o e => (by rw [n] at e; cases e), fun _ m n => absurd m n, fun _ e => e⟩

theorem Nx.trans {own : List Addr} {g g' g'' : Fz} {ads ads' ads'' : List Addr} {h h' h'' : Heap} (x : Nx own g ads h g' ads' h') (y : Nx own g' ads' h' g'' ads'' h'') : Nx own g ads h g'' ads'' h'' := by
  have none_of : ∀ a, h'.get? a = none → h.get? a = none := fun a e => by
    cases q : h.get? a with
    | none => rfl
    | some o =>
      have := x.dom a (by rw [q]; rfl)
      rw [e] at this; cases this
  refine ⟨fun a o e => y.gsub _ _ (x.gsub _ _ e), ?_, fun b o n1 n2 e => ?_, fun a n o e => ?_, fun a m n => ?_, fun b e => y.dom _ (x.dom _ e)⟩
  · obtain ⟨m1, rfl⟩ := x.asub
    obtain ⟨m2, rfl⟩ := y.asub
    exact ⟨m1 ++ m2, by rw [List.append_assoc]⟩
  · refine y.keep b o (fun hb => ?_) n2 (x.keep b o n1 n2 e)
    have := x.anew b hb n1
    rw [e] at this; cases this
  · cases q : g' a with
    | some o' => exact x.gnew a n o' q
    | none => exact none_of a (y.gnew a q o e)
  · by_cases hm : a ∈ ads'
    · exact x.anew a hm n
    · exact none_of a (y.anew a m hm)

theorem Nx.weaken {own own' : List Addr} {g g' : Fz} {ads ads' : List Addr} {h h' : Heap} (x : Nx own g ads h g' ads' h') (hs : ∀ a ∈ own, a ∈ own' ∨ h.get? a = none) : Nx own' g ads h g' ads' h' :=
  ⟨x.gsub, x.asub, fun b o n1 n2 e => x.keep b o n1 (fun hb => (hs b hb).elim n2 fun q => by rw [e] at q; cases q) e, x.gnew, x.anew, x.dom⟩

structure FrOk (env : Env) (ρ : List (Str × PV)) (g : Fz) (ads : List Addr) (h : Heap) : Prop where
  kind : env.scope.kind = .function
  glob : env.globals = mainGlobals
  bi : env.builtins = builtinsNs
  la : env.locals ∉ ads
  lg : g env.locals = none
  ns : ∃ m, h.Ns env.locals m ∧ ∀ x p, ρ.lookup x = some p → env.kindOf x = some .local → ∃ v, m x = some v ∧ VR g ads v p
  cells : ∀ x c, env.cells.lookup x = some c → c ≠ env.locals ∧ c ∉ ads ∧ (env.kindOf x ≠ some .free → g c = none) ∧ ∃ v₀, h.IsCell c v₀
  cinj : ∀ x y c, env.cells.lookup x = some c → env.cells.lookup y = some c → x = y
  cv : ∀ x p, ρ.lookup x = some p → (env.kindOf x = some .cell ∨ env.kindOf x = some .free) → ∃ c v, env.cells.lookup x = some c ∧ h.IsCell c (some v) ∧ VR g ads v p
  cd : ∀ x, env.kindOf x = some .cell → ∃ c, env.cells.lookup x = some c
  cn : (env.cells.map (·.1)).Nodup

theorem FrOk.next {env : Env} {ρ : List (Str × PV)} {g g' : Fz} {ads ads' : List Addr} {h h' : Heap} (F : FrOk env ρ g ads h) (x : Nx [] g ads h g' ads' h') : FrOk env ρ g' ads' h' := by
  obtain ⟨m, hn, hm⟩ := F.ns
  obtain ⟨oL, es, ep, hL, r⟩ := id hn
  have off : ∀ a o, a ∉ ads → h.get? a = some o → a ∉ ads' := fun a o n e hm => by
    have := x.anew a hm n; rw [e] at this; cases this
  have goff : ∀ a o, g a = none → h.get? a = some o → g' a = none := fun a o n e => by
    cases q : g' a with
    | none => rfl
    | some o' => have := x.gnew a n o' q; rw [e] at this; cases this
  have ck : ∀ c v₀, c ∉ ads → h.IsCell c v₀ → h'.IsCell c v₀ := fun c v₀ n hc => by
    obtain ⟨o, ho, hd⟩ := hc
    exact ⟨o, x.keep c o n (by simp) ho, hd⟩
  refine ⟨F.kind, F.glob, F.bi, off _ _ F.la hL, goff _ _ F.lg hL, ⟨m, ⟨oL, es, ep, x.keep _ _ F.la (by simp) hL, r⟩, fun y p hy hk => ?_⟩, fun y c hc => ?_, F.cinj, fun y p hy hk => ?_, F.cd, F.cn⟩
  · obtain ⟨v, hv, hr⟩ := hm y p hy hk
    exact ⟨v, hv, hr.mono x.gsub x.idx⟩
  · obtain ⟨n1, n2, n3, v₀, hv⟩ := F.cells y c hc
    obtain ⟨o, ho, hd⟩ := id hv
    exact ⟨n1, off _ _ n2 ho, fun hk => goff _ _ (n3 hk) ho, v₀, ck _ _ n2 hv⟩
  · obtain ⟨c, v, hc, hv, hr⟩ := F.cv y p hy hk
    obtain ⟨_, n2, _, _⟩ := F.cells y c hc
    exact ⟨c, v, hc, ck _ _ n2 hv, hr.mono x.gsub x.idx⟩

structure AOk (A : Around) (n : Nat) : Prop where
  hh : A.handled = none
  dp : A.depth + n < recursionLimit
  un : A.units + 8 * n + 300 < cLine

noncomputable abbrev Post := PV → List PObj → Prop

/-- what stands behind a piece of the run -/
inductive Res (P : PW) (own : List Addr) (g : Fz) (ads : List Addr) (s : Shared) (Q : Post) (v : Value) (s' : Shared) : Prop
  | mk (g' : Fz) (ads' : List Addr) (pv : PV) (st' : List PObj) (nx : Nx own g ads s.heap g' ads' s'.heap) (sm : Sim P g' ads' st' s'.heap) (vr : VR g' ads' v pv) (q : Q pv st') (e : s' = { s with heap := s'.heap, toks := s'.toks })

structure Ctx0 where
  prog : Program
  w : World
  mean : ExcName → Option Value
  mg : Str → Option Value
  mb : Str → Option Value
  h₀ : Heap
  B : Bs w mean mg mb h₀

noncomputable abbrev Ctx0.pw (C : Ctx0) : PW := ⟨C.prog, C.w⟩
noncomputable abbrev No : Value → Shared → Prop := fun _ _ => False

structure At0 (C : Ctx0) (n : Nat) (sc : Scope) (ρ : List (Str × PV)) (st : List PObj) (A : Around) (env : Env) (g : Fz) (ads : List Addr) (s : Shared) : Prop where
  a : AOk A n
  sc : env.scope = sc
  base : ∀ b o, C.h₀.get? b = some o → g b = some o
  fr : FrOk env ρ g ads s.heap
  sim : Sim C.pw g ads st s.heap

theorem At0.old {C : Ctx0} {n : Nat} {sc : Scope} {ρ : List (Str × PV)} {st : List PObj} {A : Around} {env : Env} {g : Fz} {ads : List Addr} {s : Shared} (x : At0 C n sc ρ st A env g ads s) : Ext C.h₀ s.heap :=
  fun b o e => x.sim.gh _ _ (x.base _ _ e)
theorem At0.bs {C : Ctx0} {n : Nat} {sc : Scope} {ρ : List (Str × PV)} {st : List PObj} {A : Around} {env : Env} {g : Fz} {ads : List Addr} {s : Shared} (x : At0 C n sc ρ st A env g ads s) : Bs C.w C.mean C.mg C.mb s.heap := C.B.mono x.old

theorem At0.lo {C : Ctx0} {n : Nat} {sc : Scope} {ρ : List (Str × PV)} {st : List PObj} {A : Around} {env : Env} {g : Fz} {ads : List Addr} {s : Shared} (x : At0 C n sc ρ st A env g ads s) : mainGlobals < s.heap.objs.size := x.bs.T.g.lt
theorem lo_of {C : Ctx0} {st : List PObj} {g : Fz} {ads : List Addr} {h : Heap} {P : PW} (base : ∀ b o, C.h₀.get? b = some o → g b = some o) (z : Sim P g ads st h) : mainGlobals < h.objs.size :=
  (C.B.mono (h' := h) fun b o e => z.gh _ _ (base _ _ e)).T.g.lt

theorem At0.next {C : Ctx0} {n : Nat} {sc : Scope} {ρ : List (Str × PV)} {st st' : List PObj} {A : Around} {env : Env} {g g' : Fz} {ads ads' : List Addr} {s s' : Shared} (x : At0 C n sc ρ st A env g ads s) (y : Nx [] g ads s.heap g' ads' s'.heap)
    (z : Sim C.pw g' ads' st' s'.heap) : At0 C n sc ρ st' A env g' ads' s' := ⟨x.a, x.sc, fun b o e => y.gsub _ _ (x.base _ _ e), x.fr.next y, z⟩

/-- an expression's worth, told without addresses -/
noncomputable def W (C : Ctx0) (n : Nat) (sc : Scope) (e : Expr) (ρ : List (Str × PV)) (st : List PObj) (Q : Post) : Prop :=
  ∀ A env g ads s, At0 C n sc ρ st A env g ads s → wpAny (model C.prog C.w) A (eval e env) (Res C.pw [] g ads s Q) No s

theorem Res.step {P : PW} {g : Fz} {ads : List Addr} {s s₁ : Shared} {Q : Post} {v : Value} {s' : Shared} {g₁ : Fz} {ads₁ : List Addr} {own : List Addr}
    (x : Nx own g ads s.heap g₁ ads₁ s₁.heap) (e : s₁ = { s with heap := s₁.heap, toks := s₁.toks }) (r : Res P own g₁ ads₁ s₁ Q v s') : Res P own g ads s Q v s' := by
  obtain ⟨g', ads', pv, st', y, z, vr, q, e'⟩ := r
  refine ⟨g', ads', pv, st', x.trans y, z, vr, q, ?_⟩
  rw [e', e]

theorem W.mono {C : Ctx0} {n : Nat} {sc : Scope} {e : Expr} {ρ : List (Str × PV)} {st : List PObj} {Q Q' : Post} (h : W C n sc e ρ st Q) (hq : ∀ p s, Q p s → Q' p s) : W C n sc e ρ st Q' :=
  fun A env g ads s x => wpAny_mono (h A env g ads s x) (fun v s' ⟨g', ads', pv, st', y, z, vr, q, e⟩ => ⟨g', ads', pv, st', y, z, vr, hq _ _ q, e⟩) fun a b f => f

/-- run one expression, then go on -/
theorem then_ {C : Ctx0} {n : Nat} {sc : Scope} {e : Expr} {ρ : List (Str × PV)} {st : List PObj} {Q₁ : Post} {A : Around} {env : Env} {g : Fz} {ads : List Addr} {s : Shared} {R : Value → Shared → Prop} (h : W C n sc e ρ st Q₁)
    (x : At0 C n sc ρ st A env g ads s)
    (k : ∀ v s₁ g₁ ads₁ pv st₁, At0 C n sc ρ st₁ A env g₁ ads₁ s₁ → Nx [] g ads s.heap g₁ ads₁ s₁.heap → s₁ = { s with heap := s₁.heap, toks := s₁.toks } → VR g₁ ads₁ v pv → Q₁ pv st₁ → R v s₁) :
    wpAny (model C.prog C.w) A (eval e env) R No s :=
  wpAny_mono (h A env g ads s x) (fun v s₁ ⟨g₁, ads₁, pv, st₁, y, z, vr, q, e₁⟩ => k v s₁ g₁ ads₁ pv st₁ (x.next y z) y e₁ vr q) fun a b f => f

/-- the value is there, nothing has changed but the tokens -/
theorem Res.here {P : PW} {own : List Addr} {g : Fz} {ads : List Addr} {s : Shared} {Q : Post} {v : Value} {pv : PV} {st : List PObj} {tk : Tok} (z : Sim P g ads st s.heap) (vr : VR g ads v pv) (q : Q pv st) : Res P own g ads s Q v { s with toks := tk } :=
  ⟨g, ads, pv, st, Nx.refl _ _ _ _, z, vr, q, rfl⟩
theorem Res.here0 {P : PW} {own : List Addr} {g : Fz} {ads : List Addr} {s : Shared} {Q : Post} {v : Value} {pv : PV} {st : List PObj} (z : Sim P g ads st s.heap) (vr : VR g ads v pv) (q : Q pv st) : Res P own g ads s Q v s :=
  ⟨g, ads, pv, st, Nx.refl _ _ _ _, z, vr, q, rfl⟩

/-! ## allocation -/
noncomputable def setF (g : Fz) (a : Addr) (o : Obj) : Fz := fun b => if b = a then some o else g b

theorem fresh_none {h : Heap} : h.get? h.objs.size = none := by
  cases q : h.get? h.objs.size with
  | none => rfl
  | some o => exact absurd (Heap.lt_size q) (Nat.lt_irrefl _)

theorem Sim.ads_there {P : PW} {g : Fz} {ads : List Addr} {st : List PObj} {h : Heap} (z : Sim P g ads st h) {a : Addr} (ha : a ∈ ads) : ∃ o, h.get? a = some o := by
  obtain ⟨n, hn⟩ := List.getElem?_of_mem ha
  obtain ⟨hl, _⟩ := List.getElem?_eq_some_iff.mp hn
  have : n < st.length := z.len ▸ hl
  exact (z.ob n a _ hn (List.getElem?_eq_getElem this)).there
theorem Sim.ads_fresh {P : PW} {g : Fz} {ads : List Addr} {st : List PObj} {h : Heap} (z : Sim P g ads st h) {a : Addr} (e : h.get? a = none) : a ∉ ads := fun ha => by
  obtain ⟨o, ho⟩ := z.ads_there ha
  rw [e] at ho; cases ho

/-- a new frozen object -/
theorem froze {P : PW} {g : Fz} {ads : List Addr} {st : List PObj} {h : Heap} (z : Sim P g ads st h) (o : Obj) (hf : o.isFreed = false := by rfl) :
    Nx [] g ads h (setF g h.objs.size o) ads (h.push o) ∧ Sim P (setF g h.objs.size o) ads st (h.push o) := by
  have gn : g h.objs.size = none := by
    cases q : g h.objs.size with
    | none => rfl
    | some o' => have := z.gh _ _ q; rw [fresh_none] at this; cases this
  have gs : ∀ a o', g a = some o' → setF g h.objs.size o a = some o' := fun a o' e => by
    unfold setF
    rw [if_neg (fun q => by rw [q, gn] at e; cases e)]
    exact e
  refine ⟨⟨gs, ⟨[], by simp⟩, fun b o' _ _ e => Heap.get?_push_of_some _ e, fun a n o' e => ?_, fun a m n => absurd m n, fun b e => ?_⟩, ⟨fun a o' e => ?_, z.nd, fun a ha => ?_, z.hi, z.len, fun n a po ha hp => ?_⟩⟩
  · unfold setF at e
    split at e
    · rename_i q; rw [q]; exact fresh_none
    · rw [n] at e; cases e
  · obtain ⟨o', ho'⟩ := Option.isSome_iff_exists.mp e
    rw [Heap.get?_push_of_some _ ho']; rfl
  · unfold setF at e
    split at e
    · rename_i q; cases e; rw [q]; exact Heap.get?_push_size _ hf
    · exact Heap.get?_push_of_some _ (z.gh _ _ e)
  · unfold setF
    rw [if_neg (fun (q : a = h.objs.size) => z.ads_fresh fresh_none (q ▸ ha))]
    exact z.ag a ha
  · exact (z.ob n a po ha hp).mono gs (fun a b e => e) fun o' e => Heap.get?_push_of_some _ e

/-- a new object that may change -/
theorem make {P : PW} {g : Fz} {ads : List Addr} {st : List PObj} {h : Heap} {po : PObj} (z : Sim P g ads st h) (hlo : mainGlobals < h.objs.size) (o : Obj) (hf : o.isFreed = false)
    (ho : ∀ h' : Heap, h'.get? h.objs.size = some o → OR P g (ads ++ [h.objs.size]) h' h.objs.size po) :
    Nx [] g ads h g (ads ++ [h.objs.size]) (h.push o) ∧ Sim P g (ads ++ [h.objs.size]) (st ++ [po]) (h.push o) := by
  have idx : ∀ (n : Nat) (a : Addr), ads[n]? = some a → (ads ++ [h.objs.size])[n]? = some a := fun n a e => by
    obtain ⟨hl, _⟩ := List.getElem?_eq_some_iff.mp e
    rw [List.getElem?_append_left hl]; exact e
  have gn : g h.objs.size = none := by
    cases q : g h.objs.size with
    | none => rfl
    | some o' => have := z.gh _ _ q; rw [fresh_none] at this; cases this
  have nm : h.objs.size ∉ ads := z.ads_fresh fresh_none
  refine ⟨⟨fun a b e => e, ⟨_, rfl⟩, fun b o' _ _ e => Heap.get?_push_of_some _ e, fun a n o' e => (by rw [n] at e; cases e), fun a m n => ?_, fun b e => ?_⟩,
    ⟨fun a o' e => Heap.get?_push_of_some _ (z.gh _ _ e), ?_, fun a ha => ?_, fun a ha => ?_, by rw [List.length_append, List.length_append, z.len]; rfl, fun n a p ha hp => ?_⟩⟩
  · rcases List.mem_append.mp m with m | m
    · exact absurd m n
    · rw [List.mem_singleton.mp m]; exact fresh_none
  · obtain ⟨o', ho'⟩ := Option.isSome_iff_exists.mp e
    rw [Heap.get?_push_of_some _ ho']; rfl
  · exact List.nodup_append.mpr ⟨z.nd, by simp, fun a ha b hb => by rw [List.mem_singleton.mp hb]; exact fun q => nm (q ▸ ha)⟩
  · rcases List.mem_append.mp ha with ha | ha
    · exact z.ag a ha
    · rw [List.mem_singleton.mp ha]; exact gn
  · rcases List.mem_append.mp ha with ha | ha
    · exact z.hi a ha
    · rw [List.mem_singleton.mp ha]; exact hlo
  · by_cases hl : n < ads.length
    · rw [List.getElem?_append_left hl] at ha
      rw [List.getElem?_append_left (z.len ▸ hl)] at hp
      exact (z.ob n a p ha hp).mono (fun a b e => e) idx fun o' e => Heap.get?_push_of_some _ e
    · rw [List.getElem?_append_right (Nat.le_of_not_lt hl)] at ha
      rw [List.getElem?_append_right (z.len ▸ Nat.le_of_not_lt hl), ← z.len] at hp
      have h0 : n - ads.length = 0 := by
        obtain ⟨q, _⟩ := List.getElem?_eq_some_iff.mp ha
        simp at q; omega
      rw [h0] at ha hp
      cases ha; cases hp
      exact ho _ (Heap.get?_push_size _ hf)
section
variable {C : Ctx0} {n : Nat} {sc : Scope} {ρ : List (Str × PV)} {st : List PObj} {Q : Post}

theorem FrOk.kindOf {env : Env} {ρ : List (Str × PV)} {g : Fz} {ads : List Addr} {h : Heap} (_F : FrOk env ρ g ads h) {sc : Scope} (e : env.scope = sc) (x : Str) : env.kindOf x = sc.names.lookup x := by
  unfold Env.kindOf; rw [e]

theorem W.nameL {x : Str} {pos : Pos} {p : PV} (hk : sc.names.lookup x = some .local) (hp : ρ.lookup x = some p) (hd : (x == ("__debug__" : Str)) = false) (q : Q p st) : W C n sc (.Name x pos) ρ st Q := by
  intro A env g ads s z
  have hk' : env.kindOf x = some .local := (z.fr.kindOf z.sc x).trans hk
  obtain ⟨m, hn, hm⟩ := z.fr.ns
  obtain ⟨v, hv, vr⟩ := hm x p hp hk'
  exact wpAny_Name (wpAny_loadName_local z.fr.kind hk' hn hv (Res.here0 z.sim vr q)) hd

theorem W.nameC {x : Str} {pos : Pos} {p : PV} (hk : sc.names.lookup x = some .cell) (hp : ρ.lookup x = some p) (hd : (x == ("__debug__" : Str)) = false) (q : Q p st) : W C n sc (.Name x pos) ρ st Q := by
  intro A env g ads s z
  have hk' : env.kindOf x = some .cell := (z.fr.kindOf z.sc x).trans hk
  obtain ⟨c, v, hc, hv, vr⟩ := z.fr.cv x p hp (.inl hk')
  exact wpAny_Name (wpAny_loadName_cell z.fr.kind hk' hc hv (Res.here0 z.sim vr q)) hd

theorem W.int {i : Int} {k : Nat} {pos : Pos} (q : Q (.int i) st) : W C n sc (.Constant (.int i) k pos) ρ st Q := fun A env g ads s z =>
  wpAny_Constant_int (Res.here z.sim (.int i _) q)
theorem W.str {i : Str} {k : Nat} {pos : Pos} (q : Q (.str i) st) : W C n sc (.Constant (.str i) k pos) ρ st Q := fun A env g ads s z => by
  intro Γ p hΓ
  exact Res.here z.sim (.str i _) q
theorem W.bool {b : Bool} {k : Nat} {pos : Pos} (q : Q (.bool b) st) : W C n sc (.Constant (.bool b) k pos) ρ st Q := fun A env g ads s z => by
  intro Γ p hΓ
  exact Res.here0 z.sim (.bool b) q

/-! ## several -/
inductive RsL (P : PW) (g : Fz) (ads : List Addr) (s : Shared) (Q : List PV → List PObj → Prop) (vs : List Value) (s' : Shared) : Prop
  | mk (g' : Fz) (ads' : List Addr) (ps : List PV) (st' : List PObj) (nx : Nx [] g ads s.heap g' ads' s'.heap) (sm : Sim P g' ads' st' s'.heap) (vr : VRs g' ads' vs ps) (q : Q ps st') (e : s' = { s with heap := s'.heap, toks := s'.toks })
noncomputable def Ws (C : Ctx0) (n : Nat) (sc : Scope) (es : List Expr) (ρ : List (Str × PV)) (st : List PObj) (Q : List PV → List PObj → Prop) : Prop :=
  ∀ A env g ads s pos, At0 C n sc ρ st A env g ads s → wpAny (model C.prog C.w) A (spliced (backTo pos (starEach es env))) (RsL C.pw g ads s Q) No s

theorem Ws.nil {Q : List PV → List PObj → Prop} (q : Q [] st) : Ws C n sc [] ρ st Q := fun A env g ads s pos z =>
  args_nil ⟨g, ads, [], st, Nx.refl _ _ _ _, z.sim, .nil, q, rfl⟩
theorem Ws.cons {e : Expr} {es : List Expr} {Q : List PV → List PObj → Prop} (he : ∀ env, starEach (e :: es) env = (false, eval e env) :: starEach es env)
    (h : W C n sc e ρ st (fun p st₁ => Ws C n sc es ρ st₁ (fun ps st₂ => Q (p :: ps) st₂))) : Ws C n sc (e :: es) ρ st Q := by
  intro A env g ads s pos z
  refine spliced_more (then_ h z fun v s₁ g₁ ads₁ pv st₁ z₁ x₁ e₁ vr q => ?_) (he env)
  refine wpAny_mono (q A env g₁ ads₁ s₁ pos z₁) (fun vs s₂ => ?_) fun a b f => f
  rintro ⟨g₂, ads₂, ps, st₂, x₂, z₂, vrs, q₂, e₂⟩
  exact ⟨g₂, ads₂, pv :: ps, st₂, x₁.trans x₂, z₂, .cons (vr.mono x₂.gsub x₂.idx) vrs, q₂, by rw [e₂, e₁]⟩

theorem Ws.run {es : List Expr} {Q₁ : List PV → List PObj → Prop} {A : Around} {env : Env} {g : Fz} {ads : List Addr} {s : Shared} {pos : Pos} {R : List Value → Shared → Prop} (h : Ws C n sc es ρ st Q₁)
    (x : At0 C n sc ρ st A env g ads s)
    (k : ∀ vs s₁ g₁ ads₁ ps st₁, At0 C n sc ρ st₁ A env g₁ ads₁ s₁ → Nx [] g ads s.heap g₁ ads₁ s₁.heap → s₁ = { s with heap := s₁.heap, toks := s₁.toks } → VRs g₁ ads₁ vs ps → Q₁ ps st₁ → R vs s₁) :
    wpAny (model C.prog C.w) A (spliced (backTo pos (starEach es env))) R No s :=
  wpAny_mono (h A env g ads s pos x) (fun v s₁ ⟨g₁, ads₁, pv, st₁, y, z, vr, q, e₁⟩ => k v s₁ g₁ ads₁ pv st₁ (x.next y z) y e₁ vr q) fun a b f => f

theorem sizeLine_is : sizeLine = 16777216 := by decide +kernel

theorem W.tuple {es : List Expr} {k : Nat} {pos : Pos} (h : Ws C n sc es ρ st (fun ps st₁ => ps.length ≤ 1000000 ∧ Q (.tup ps) st₁)) : W C n sc (.Tuple es k pos) ρ st Q := by
  intro A env g ads s z
  refine Tuple_ (Ws.run h z fun vs s₁ g₁ ads₁ ps st₁ z₁ x₁ e₁ vrs q => ?_)
  obtain ⟨hl, q⟩ := q
  have f := froze z₁.sim { cls := .type "tuple", data := .seq vs.toArray }
  refine wpAny_newObj_type ?_ (by show vs.toArray.size ≤ sizeLine; rw [List.size_toArray, vrs.length, sizeLine_is]; omega)
  refine ⟨_, ads₁, .tup ps, st₁, x₁.trans f.1, f.2, .tup (n := 0) ?_ (vrs.mono f.1.gsub f.1.idx), q, ?_⟩
  · show setF g₁ s₁.heap.objs.size _ s₁.heap.objs.size = _
    unfold setF; rw [if_pos rfl]
  · rw [e₁]

theorem make_list {P : PW} {g : Fz} {ads : List Addr} {st : List PObj} {h : Heap} {vs : List Value} {ps : List PV} (z : Sim P g ads st h) (hlo : mainGlobals < h.objs.size) (vrs : VRs g ads vs ps) :
    Nx [] g ads h g (ads ++ [h.objs.size]) (h.push { cls := .type "list", data := .seq vs.toArray }) ∧ Sim P g (ads ++ [h.objs.size]) (st ++ [.list ps]) (h.push { cls := .type "list", data := .seq vs.toArray }) := by
  have idx : ∀ (n : Nat) (a : Addr), ads[n]? = some a → (ads ++ [h.objs.size])[n]? = some a := fun n a e => by
    obtain ⟨hl, _⟩ := List.getElem?_eq_some_iff.mp e
    rw [List.getElem?_append_left hl]; exact e
  exact make z hlo { cls := .type "list", data := .seq vs.toArray } rfl fun h' e => .list e (vrs.mono (fun a b e => e) idx)
theorem loc_new {P : PW} {g : Fz} {ads : List Addr} {st : List PObj} {h : Heap} (z : Sim P g ads st h) {a : Addr} : VR g (ads ++ [a]) (.ref a) (.loc st.length) :=
  .loc (by rw [← z.len]; simp)

theorem W.list {es : List Expr} {pos : Pos} (h : Ws C n sc es ρ st (fun ps st₁ => ps.length ≤ 1000000 ∧ Q (.loc st₁.length) (st₁ ++ [.list ps]))) : W C n sc (.List es pos) ρ st Q := by
  intro A env g ads s z
  refine List_ (Ws.run h z fun vs s₁ g₁ ads₁ ps st₁ z₁ x₁ e₁ vrs q => ?_)
  obtain ⟨hl, q⟩ := q
  have f := make_list z₁.sim z₁.lo vrs
  refine wpAny_newObj_type ?_ (by show vs.toArray.size ≤ sizeLine; rw [List.size_toArray, vrs.length, sizeLine_is]; omega)
  exact ⟨_, _, _, _, x₁.trans f.1, f.2, loc_new z₁.sim, q, by rw [e₁]⟩

/-! ## operators -/
/-- two values are there: what an operator makes of them -/
noncomputable def Op2 (C : Ctx0) (n : Nat) (f : Value → Value → Sem Value) (a b : PV) (st : List PObj) (Q : Post) : Prop :=
  ∀ A g ads s va vb, AOk A n → (∀ b o, C.h₀.get? b = some o → g b = some o) → Sim C.pw g ads st s.heap → VR g ads va a → VR g ads vb b → wpAny (model C.prog C.w) A (f va vb) (Res C.pw [] g ads s Q) No s

theorem W.binop {l r : Expr} {op : Operator} {pos : Pos} (h : W C n sc l ρ st (fun a st₁ => W C n sc r ρ st₁ (fun b st₂ => Op2 C n (binaryOp op) a b st₂ Q))) : W C n sc (.BinOp l op r pos) ρ st Q := by
  intro A env g ads s z
  refine wpAny_BinOp (then_ h z fun va s₁ g₁ ads₁ a st₁ z₁ x₁ e₁ vra q₁ => then_ q₁ z₁ fun vb s₂ g₂ ads₂ b st₂ z₂ x₂ e₂ vrb q₂ => ?_)
  exact wpAny_mono (q₂ A g₂ ads₂ s₂ va vb z.a z₂.base z₂.sim (vra.mono x₂.gsub x₂.idx) vrb) (fun v s' r => (r.step x₂ e₂).step x₁ e₁) fun a b f => f
theorem W.cmp {l r : Expr} {op : CmpOp} {pos : Pos} (hm : behindInMarks op r = false) (h : W C n sc l ρ st (fun a st₁ => W C n sc r ρ st₁ (fun b st₂ => Op2 C n (compareOp op) a b st₂ Q))) : W C n sc (.Compare l [op] [r] pos) ρ st Q := by
  intro A env g ads s z
  refine wpAny_Compare1 (then_ h z fun va s₁ g₁ ads₁ a st₁ z₁ x₁ e₁ vra q₁ => then_ q₁ z₁ fun vb s₂ g₂ ads₂ b st₂ z₂ x₂ e₂ vrb q₂ => ?_) hm
  exact wpAny_mono (q₂ A g₂ ads₂ s₂ va vb z.a z₂.base z₂.sim (vra.mono x₂.gsub x₂.idx) vrb) (fun v s' r => (r.step x₂ e₂).step x₁ e₁) fun a b f => f

theorem Op2.addI {a b : Int} (q : Q (.int (a + b)) st) : Op2 C n (binaryOp .Add) (.int a) (.int b) st Q := by
  intro A g ads s va vb ha hb z x y
  cases x; cases y
  exact add_int (Res.here z (.int _ _) q)
theorem Op2.subI {a b : Int} (q : Q (.int (a - b)) st) : Op2 C n (binaryOp .Sub) (.int a) (.int b) st Q := by
  intro A g ads s va vb ha hb z x y
  cases x; cases y
  exact sub_int (Res.here z (.int _ _) q)
theorem Op2.mulI {a b : Int} (hm : IntMulOk a b) (q : Q (.int (a * b)) st) : Op2 C n (binaryOp .Mult) (.int a) (.int b) st Q := by
  intro A g ads s va vb ha hb z x y
  cases x; cases y
  exact mul_int (Res.here z (.int _ _) q) hm
theorem Op2.modI {a b : Int} (h0 : b ≠ 0) (q : Q (.int (a.fmod b)) st) : Op2 C n (binaryOp .Mod) (.int a) (.int b) st Q := by
  intro A g ads s va vb ha hb z x y
  cases x; cases y
  exact mod_int_or ha.hh (fun e => absurd e h0) fun _ => Res.here z (.int _ _) q
theorem Op2.eqI {a b : Int} (q : Q (.bool (a == b)) st) : Op2 C n (compareOp .Eq) (.int a) (.int b) st Q := by
  intro A g ads s va vb ha hb z x y
  cases x; cases y
  exact eq_int (Res.here0 z (.bool _) q)
theorem Op2.neI {a b : Int} (q : Q (.bool (a != b)) st) : Op2 C n (compareOp .NotEq) (.int a) (.int b) st Q := by
  intro A g ads s va vb ha hb z x y
  cases x; cases y
  exact ne_int (Res.here0 z (.bool _) q)
theorem Op2.ltI {a b : Int} (q : Q (.bool (decide (a < b))) st) : Op2 C n (compareOp .Lt) (.int a) (.int b) st Q := by
  intro A g ads s va vb ha hb z x y
  cases x; cases y
  exact lt_int (Res.here0 z (.bool _) q)
theorem Op2.gtI {a b : Int} (q : Q (.bool (decide (a > b))) st) : Op2 C n (compareOp .Gt) (.int a) (.int b) st Q := by
  intro A g ads s va vb ha hb z x y
  cases x; cases y
  exact gt_int (Res.here0 z (.bool _) q)
theorem Op2.geI {a b : Int} (q : Q (.bool (decide (a ≥ b))) st) : Op2 C n (compareOp .GtE) (.int a) (.int b) st Q := by
  intro A g ads s va vb ha hb z x y
  cases x; cases y
  exact ge_int (Res.here0 z (.bool _) q)
theorem Op2.eqS {a b : Str} (q : Q (.bool (a == b)) st) : Op2 C n (compareOp .Eq) (.str a) (.str b) st Q := by
  intro A g ads s va vb ha hb z x y
  cases x; cases y
  exact eq_str (Res.here0 z (.bool _) q)
end
noncomputable def upd : List (Str × PV) → Str → PV → List (Str × PV)
  | [], x, p => [(x, p)]
  | (y, q) :: r, x, p => if y == x then (x, p) :: r else (y, q) :: upd r x p
theorem upd_self : ∀ (ρ : List (Str × PV)) (x : Str) (p : PV), (upd ρ x p).lookup x = some p
  | [], x, p => by simp [upd]
  | (y, q) :: r, x, p => by
    unfold upd
    by_cases h : (y == x) = true
    · rw [if_pos h]; simp
    · rw [if_neg h, List.lookup_cons]
      have : (x == y) = false := by
        cases e : x == y with
        | false => rfl
        | true => exact absurd (by rw [eq_of_beq e]; simp) h
      rw [this]; exact upd_self r x p
theorem upd_ne : ∀ (ρ : List (Str × PV)) (x y : Str) (p : PV), y ≠ x → (upd ρ x p).lookup y = ρ.lookup y
  | [], x, y, p, h => by
    have : (y == x) = false := by simpa using h
    simp [upd, List.lookup_cons, this]
  | (z, q) :: r, x, y, p, h => by
    unfold upd
    by_cases e : (z == x) = true
    · have ez : z = x := eq_of_beq e
      have : (y == x) = false := by simpa using h
      rw [if_pos e, List.lookup_cons, List.lookup_cons, ez, this]
    · rw [if_neg e, List.lookup_cons, List.lookup_cons, upd_ne r x y p h]

noncomputable abbrev ownOf (env : Env) : List Addr := env.locals :: env.cells.map (·.2)

noncomputable abbrev PostN := List (Str × PV) → List PObj → Prop

inductive ResW (P : PW) (own : List Addr) (env : Env) (g : Fz) (ads : List Addr) (s : Shared) (Q : PostN) (s' : Shared) : Prop
  | mk (g' : Fz) (ads' : List Addr) (ρ' : List (Str × PV)) (st' : List PObj) (nx : Nx own g ads s.heap g' ads' s'.heap) (sm : Sim P g' ads' st' s'.heap) (fr : FrOk env ρ' g' ads' s'.heap) (q : Q ρ' st') (e : s' = { s with heap := s'.heap, toks := s'.toks })
noncomputable abbrev ResN (P : PW) (env : Env) (g : Fz) (ads : List Addr) (s : Shared) (Q : PostN) (s' : Shared) : Prop := ResW P (ownOf env) env g ads s Q s'

noncomputable def RX (P : PW) (env : Env) (g : Fz) (ads : List Addr) (s : Shared) (Qn : PostN) (Qr : Post) (fl : Flow) (s' : Shared) : Prop := match fl with
  | .next => ResN P env g ads s Qn s'
  | .ret v => Res P (ownOf env) g ads s Qr v s'
  | _ => False

theorem ResN.step {P : PW} {env : Env} {g : Fz} {ads : List Addr} {s s₁ : Shared} {Q : PostN} {s' : Shared} {g₁ : Fz} {ads₁ : List Addr}
    (x : Nx (ownOf env) g ads s.heap g₁ ads₁ s₁.heap) (e : s₁ = { s with heap := s₁.heap, toks := s₁.toks }) (r : ResN P env g₁ ads₁ s₁ Q s') : ResN P env g ads s Q s' := by
  obtain ⟨g', ads', ρ', st', y, z, fr, q, e'⟩ := r
  exact ⟨g', ads', ρ', st', x.trans y, z, fr, q, by rw [e', e]⟩
theorem RX.step {P : PW} {env : Env} {g : Fz} {ads : List Addr} {s s₁ : Shared} {Qn : PostN} {Qr : Post} {fl : Flow} {s' : Shared} {g₁ : Fz} {ads₁ : List Addr}
    (x : Nx (ownOf env) g ads s.heap g₁ ads₁ s₁.heap) (e : s₁ = { s with heap := s₁.heap, toks := s₁.toks }) (r : RX P env g₁ ads₁ s₁ Qn Qr fl s') : RX P env g ads s Qn Qr fl s' := by
  cases fl with
  | next => exact ResN.step x e r
  | ret v => exact Res.step x e r
  | brk => exact r
  | cont => exact r
theorem Nx.any {own : List Addr} {g g' : Fz} {ads ads' : List Addr} {h h' : Heap} (x : Nx [] g ads h g' ads' h') : Nx own g ads h g' ads' h' := x.weaken fun _ hm => absurd hm (by simp)
theorem Res.any {P : PW} {own : List Addr} {g : Fz} {ads : List Addr} {s : Shared} {Q : Post} {v : Value} {s' : Shared} (r : Res P [] g ads s Q v s') : Res P own g ads s Q v s' := by
  obtain ⟨g', ads', pv, st', y, z, vr, q, e'⟩ := r
  exact ⟨g', ads', pv, st', y.any, z, vr, q, e'⟩

noncomputable def X (C : Ctx0) (n : Nat) (sc : Scope) (b : List Stmt) (ρ : List (Str × PV)) (st : List PObj) (Qn : PostN) (Qr : Post) : Prop :=
  ∀ A env g ads s, At0 C n sc ρ st A env g ads s → wpAny (model C.prog C.w) A (execs b env) (RX C.pw env g ads s Qn Qr) No s
noncomputable def X1 (C : Ctx0) (n : Nat) (sc : Scope) (b : Stmt) (ρ : List (Str × PV)) (st : List PObj) (Qn : PostN) (Qr : Post) : Prop :=
  ∀ A env g ads s, At0 C n sc ρ st A env g ads s → wpAny (model C.prog C.w) A (exec b env) (RX C.pw env g ads s Qn Qr) No s

section
variable {C : Ctx0} {n : Nat} {sc : Scope} {ρ : List (Str × PV)} {st : List PObj} {Qn : PostN} {Qr : Post}

theorem X.nil (q : Qn ρ st) : X C n sc [] ρ st Qn Qr := fun A env g ads s z =>
  wpAny_execs_nil ⟨g, ads, ρ, st, Nx.refl _ _ _ _, z.sim, z.fr, q, rfl⟩
theorem X.cons {b : Stmt} {r : List Stmt} (h : X1 C n sc b ρ st (fun ρ' st' => X C n sc r ρ' st' Qn Qr) Qr) : X C n sc (b :: r) ρ st Qn Qr := by
  intro A env g ads s z
  refine wpAny_execs_cons (wpAny_mono (h A env g ads s z) (fun fl s₁ r₁ => ?_) fun a b f => f)
  cases fl with
  | next =>
    obtain ⟨g₁, ads₁, ρ₁, st₁, x₁, z₁, f₁, q, e₁⟩ := r₁
    exact wpAny_mono (q A env g₁ ads₁ s₁ ⟨z.a, z.sc, fun b o e => x₁.gsub _ _ (z.base _ _ e), f₁, z₁⟩) (fun fl s' r => r.step x₁ e₁) fun a b f => f
  | ret v => exact r₁
  | brk => exact r₁
  | cont => exact r₁

theorem X1.ret {e : Expr} {pos : Pos} (h : W C n sc e ρ st Qr) : X1 C n sc (.Return (some e) pos) ρ st Qn Qr := fun A env g ads s z =>
  wpAny_Return_some (wpAny_mono (h A env g ads s z) (fun v s' r => r.any) fun a b f => f)

/-! ## stores -/
theorem sameBut_nx {P : PW} {g : Fz} {ads : List Addr} {st : List PObj} {h h' : Heap} {a : Addr} (z : Sim P g ads st h) (ha : a ∉ ads) (hg : g a = none) (hs : Heap.SameBut a h h') (hl : (h'.get? a).isSome = true) :
    Nx [a] g ads h g ads h' ∧ Sim P g ads st h' := by
  refine ⟨⟨fun a b e => e, ⟨[], by simp⟩, fun b o _ n e => (hs.2 b (by simpa using n)).trans e, fun a n o e => (by rw [n] at e; cases e), fun _ m n => absurd m n, fun b e => ?_⟩,
    ⟨fun b o e => ?_, z.nd, z.ag, z.hi, z.len, fun n b po hb hp => ?_⟩⟩
  · by_cases hba : b = a
    · rw [hba]; exact hl
    · rw [hs.2 b hba]; exact e
  · refine (hs.2 b fun hba => ?_).trans (z.gh _ _ e)
    rw [hba, hg] at e; cases e
  · refine (z.ob n b po hb hp).mono (fun a b e => e) (fun a b e => e) fun o e => (hs.2 b fun hba => ?_).trans e
    exact ha (hba ▸ List.mem_of_getElem? hb)

theorem store_ok {A : Around} {env : Env} {g : Fz} {ads : List Addr} {s : Shared} {x : Str} {v : Value} {p : PV} {R : Unit → Shared → Prop} (z : At0 C n sc ρ st A env g ads s) (vr : VR g ads v p) (hk : sc.names.lookup x = some .local ∨ sc.names.lookup x = some .cell)
    (k : ∀ s', Nx (ownOf env) g ads s.heap g ads s'.heap → Sim C.pw g ads st s'.heap → FrOk env (upd ρ x p) g ads s'.heap → s' = { s with heap := s'.heap, toks := s'.toks } → R () s') :
    wpAny (model C.prog C.w) A (storeName env x v) R No s := by
  obtain ⟨m, hn, hm⟩ := z.fr.ns
  rcases hk with hk | hk
  · have hk' : env.kindOf x = some .local := (z.fr.kindOf z.sc x).trans hk
    refine wpAny_storeName_local hk' hn (fun h' hn' hs => ?_) (by rw [z.fr.kind]; rfl)
    have hl : (h'.get? env.locals).isSome = true := by obtain ⟨o, _, _, ho, _⟩ := hn'; rw [ho]; rfl
    obtain ⟨nx, sm⟩ := sameBut_nx z.sim z.fr.la z.fr.lg hs hl
    have ck : ∀ c v₀, c ≠ env.locals → s.heap.IsCell c v₀ → h'.IsCell c v₀ := fun c v₀ hc hv => hv.sameBut hs hc
    refine k _ (nx.weaken fun a ha => .inl (by rw [List.mem_singleton.mp ha]; exact .head _)) sm ⟨z.fr.kind, z.fr.glob, z.fr.bi, z.fr.la, z.fr.lg, ⟨_, hn', fun y q hy hky => ?_⟩, fun y c hc => ?_, z.fr.cinj, fun y q hy hky => ?_, z.fr.cd, z.fr.cn⟩ rfl
    · by_cases e : y = x
      · subst e
        rw [upd_self] at hy; cases hy
        exact ⟨v, by simp, vr⟩
      · rw [upd_ne _ _ _ _ e] at hy
        obtain ⟨v', hv', r⟩ := hm y q hy hky
        exact ⟨v', by rw [if_neg e]; exact hv', r⟩
    · obtain ⟨n1, n2, n3, v₀, hv⟩ := z.fr.cells y c hc
      exact ⟨n1, n2, n3, v₀, ck _ _ n1 hv⟩
    · have e : y ≠ x := fun e => by subst e; rw [hk'] at hky; rcases hky with h | h <;> cases h
      rw [upd_ne _ _ _ _ e] at hy
      obtain ⟨c, v', hc, hv, r⟩ := z.fr.cv y q hy hky
      exact ⟨c, v', hc, ck _ _ (z.fr.cells y c hc).1 hv, r⟩
  · have hk' : env.kindOf x = some .cell := (z.fr.kindOf z.sc x).trans hk
    obtain ⟨c, hc⟩ := z.fr.cd x hk'
    obtain ⟨n1, n2, n3, v₀, hv⟩ := z.fr.cells x c hc
    refine wpAny_storeName_cell z.fr.kind hk' hc hv (fun h' hv' hs => ?_)
    have hl : (h'.get? c).isSome = true := by obtain ⟨o, ho, _⟩ := hv'; rw [ho]; rfl
    obtain ⟨nx, sm⟩ := sameBut_nx z.sim n2 (n3 (by rw [hk']; simp)) hs hl
    have mem : ∀ {l : List (Str × Addr)} {c : Addr}, l.lookup x = some c → c ∈ l.map (·.2) := by
      intro l
      induction l with
      | nil => intro c h; cases h
      | cons p r ih =>
        intro c h
        rw [List.lookup_cons] at h
        split at h
        · cases h; exact .head _
        · exact .tail _ (ih h)
    refine k _ (nx.weaken fun a ha => .inl (by rw [List.mem_singleton.mp ha]; exact .tail _ (mem hc))) sm ⟨z.fr.kind, z.fr.glob, z.fr.bi, z.fr.la, z.fr.lg, ⟨m, ?_, fun y q hy hky => ?_⟩, fun y c' hc' => ?_, z.fr.cinj, fun y q hy hky => ?_, z.fr.cd, z.fr.cn⟩ rfl
    · obtain ⟨o, es, ep, ho, r⟩ := hn
      exact ⟨o, es, ep, (hs.2 _ (Ne.symm n1)).trans ho, r⟩
    · have e : y ≠ x := fun e => by subst e; rw [hk'] at hky; cases hky
      rw [upd_ne _ _ _ _ e] at hy
      exact hm y q hy hky
    · obtain ⟨m1, m2, m3, v₁, hv₁⟩ := z.fr.cells y c' hc'
      by_cases e : c' = c
      · subst e; exact ⟨m1, m2, m3, _, hv'⟩
      · exact ⟨m1, m2, m3, v₁, hv₁.sameBut hs e⟩
    · by_cases e : y = x
      · subst e
        rw [upd_self] at hy; cases hy
        exact ⟨c, v, hc, hv', vr⟩
      · rw [upd_ne _ _ _ _ e] at hy
        obtain ⟨c', v', hc', hv₁, r⟩ := z.fr.cv y q hy hky
        have ne : c' ≠ c := fun q => e (z.fr.cinj y x c (q ▸ hc') hc)
        exact ⟨c', v', hc', hv₁.sameBut hs ne, r⟩

theorem X1.assign {x : Str} {pos' pos : Pos} {e : Expr} (hk : sc.names.lookup x = some .local ∨ sc.names.lookup x = some .cell)
    (hs : ∀ env, swapsWith e (some (.Name x pos')) pos.line env = pure false)
    (h : W C n sc e ρ st (fun p st' => Qn (upd ρ x p) st')) : X1 C n sc (.Assign [.Name x pos'] e pos) ρ st Qn Qr := by
  intro A env g ads s z
  refine wpAny_Assign_Name (then_ h z fun v s₁ g₁ ads₁ p st₁ z₁ x₁ e₁ vr q => ?_) (hs env)
  exact store_ok z₁ vr hk fun s' nx sm fr e' => ⟨g₁, ads₁, _, st₁, x₁.any.trans nx, sm, fr, q, by rw [e', e₁]⟩
end

/-! ## a def's call -/
noncomputable def CF (C : Ctx0) (n : Nat) (f : Addr) (ps : List PV) (st : List PObj) (Q : Post) : Prop :=
  ∀ A g ads s vs, AOk A n → (∀ b o, C.h₀.get? b = some o → g b = some o) → Sim C.pw g ads st s.heap → VRs g ads vs ps → wpAny (model C.prog C.w) A (call (.ref f) vs) (Res C.pw [] g ads s Q) No s

theorem bindL_off {kd : Str → Option NameKind} {x : Str} : ∀ (b : List (Str × Value)) (m : Str → Option Value), x ∉ b.map (·.1) → bindL kd b m x = m x
  | [], _, _ => rfl
  | (y, v) :: r, m, h => by
    unfold bindL
    rw [bindL_off r _ fun q => h (.tail _ q)]
    have : x ≠ y := fun e => h (by rw [e]; exact .head _)
    split
    · exact if_neg this
    · rfl
theorem bindC_off {kd : Str → Option NameKind} {x : Str} : ∀ (b : List (Str × Value)) (m : Str → Option Value), x ∉ b.map (·.1) → bindC kd b m x = m x
  | [], _, _ => rfl
  | (y, v) :: r, m, h => by
    unfold bindC
    rw [bindC_off r _ fun q => h (.tail _ q)]
    have : x ≠ y := fun e => h (by rw [e]; exact .head _)
    split
    · rfl
    · exact if_neg this
theorem zip_off {x : Str} : ∀ {names : List Str} {vs : List Value}, x ∉ names → x ∉ (names.zip vs).map (·.1)
  | [], _, _ => by simp
  | _ :: _, [], _ => by simp
  | y :: ns, v :: vs, h => by
    rw [List.zip_cons_cons, List.map_cons]
    intro q
    rcases List.mem_cons.mp q with q | q
    · exact h (by rw [q]; exact .head _)
    · exact zip_off (fun r => h (.tail _ r)) q
theorem bind_ok {kd : Str → Option NameKind} {g : Fz} {ads : List Addr} : ∀ {names : List Str} {vs : List Value} {ps : List PV} (m cm : Str → Option Value), names.Nodup → VRs g ads vs ps → ∀ x p, (names.zip ps).lookup x = some p →
    (kd x = some .local → ∃ v, bindL kd (names.zip vs) m x = some v ∧ VR g ads v p) ∧ (kd x ≠ some .local → ∃ v, bindC kd (names.zip vs) cm x = some v ∧ VR g ads v p)
  | [], _, _, _, _, _, _, x, p, h => by simp at h
  | _ :: _, _, _, _, _, _, .nil, x, p, h => by simp at h
  | y :: ns, v :: vs, q :: ps, m, cm, hn, .cons hv hr, x, p, h => by
    rw [List.zip_cons_cons, List.lookup_cons] at h
    rw [List.nodup_cons] at hn
    rw [List.zip_cons_cons]
    unfold bindL bindC
    split at h
    · rename_i e
      have e' : x = y := eq_of_beq e
      subst e'
      cases h
      refine ⟨fun hl => ⟨v, ?_, hv⟩, fun hl => ⟨v, ?_, hv⟩⟩
      · rw [bindL_off _ _ (zip_off hn.1), if_pos hl, if_pos rfl]
      · rw [bindC_off _ _ (zip_off hn.1), if_neg hl, if_pos rfl]
    · exact bind_ok _ _ hn.2 hr x p h

theorem CF.enter {C : Ctx0} {n : Nat} {f : Addr} {ps : List PV} {st : List PObj} {Q : Post} {name qual : Str} {params : Arguments} {body : List Stmt} {scope : Scope} {dV kV doc pm cdv ct oc : Value} {an od : Option Addr} {osl : Array (Option Value)} {names : List Str}
    (ho : (hd.heap_1 C.w.params).lookup f = some ⟨oc, od, .func (fnOf name qual params body scope dV kV doc pm an cdv ct), osl⟩) (hcd : codeIn (hd.heap_1 C.w.params) cdv qual = true)
    (hlen : ps.length = names.length)
    (hbind : ∀ vs : List Value, vs.length = names.length → bindArgs (fnOf name qual params body scope dV kV doc pm an cdv ct) ⟨vs, []⟩ = pure (names.zip vs))
    (hnd : names.Nodup) (hkind : names.all (fun x => scope.names.lookup x == some .local || scope.names.lookup x == some .cell) = true)
    (hcn : ((cellsFrom 0 scope.names []).map (·.1)).Nodup) (hfree : scope.names.all (fun x => x.2 != .free) = true) (hcells : scope.names.all (fun x => x.2 != .cell || scope.names.lookup x.1 == some .cell) = true)
    (hco : scope.isCoroutine = false) (hgen : scope.isGenerator = false) (hk : scope.kind = .function)
    (h : X C n scope body (names.zip ps) st (fun _ st' => Q .none st') Q) : CF C (n + 1) f ps st Q := by
  intro A g ads s vs a base z vrs
  have B : Bs C.w C.mean C.mg C.mb s.heap := C.B.mono fun b o e => z.gh _ _ (base _ _ e)
  have hvl : vs.length = names.length := vrs.length.trans hlen
  have key : (names.zip vs).all (fun y => scope.names.lookup y.1 == some .local || scope.names.lookup y.1 == some .cell) = true := by
    rw [List.all_eq_true] at hkind ⊢
    intro y hy
    exact hkind y.1 (List.of_mem_zip hy).1
  refine wpAny_call ?_
  refine codeAny_call_function (fd := fnOf name qual params body scope dV kV doc pm an cdv ct) (body := body) (by have := a.dp; omega) (B.X _ _ ho) rfl hco hgen rfl (codeRec_of B.X hcd) (BindsTo.of_eq (hbind vs hvl) _ _ _ _ ?_)
  refine wpAny_newFunctionEnv_cells hk (kindsX key _) fun env' he s' x => ?_
  obtain ⟨h₁, tk, es, _⟩ := x.done
  have hk₁ := x.toInCall.keep
  refine ⟨(B.T.nolimit.keeps hk₁), codeAny_func ?_⟩
  have el : env'.locals = s.heap.objs.size := by rw [he]; rfl
  have ec : env'.cells = cellsFrom (s.heap.objs.size + 1) scope.names [] := by rw [he]; rfl
  have esc : env'.scope = scope := by rw [he]; rfl
  have nda : (env'.cells.map (·.1)).Nodup := by
    rw [ec, cellsFrom_names scope.names (s.heap.objs.size + 1) 0 [] [] rfl]; exact hcn
  have memOf : ∀ {l : List (Str × Addr)} {y : Str} {c : Addr}, l.lookup y = some c → (y, c) ∈ l := by
    intro l
    induction l with
    | nil => intro y c h; cases h
    | cons p r ih =>
      intro y c h
      obtain ⟨q1, q2⟩ := p
      rw [List.lookup_cons] at h
      split at h
      · rename_i e; cases h; rw [eq_of_beq e]; exact .head _
      · exact .tail _ (ih h)
  have fresh : ∀ b, s.heap.objs.size ≤ b → s.heap.get? b = none := fun b hb => by
    cases q : s.heap.get? b with
    | none => rfl
    | some o => exact absurd (Heap.lt_size q) (Nat.not_lt.mpr hb)
  have hh' : s'.heap = h₁ := by rw [es]
  have nx0 : Nx [] g ads s.heap g ads s'.heap := ⟨fun a b e => e, ⟨[], by simp⟩, fun b o _ _ e => hk₁ b o e, fun a n o e => (by rw [n] at e; cases e), fun _ m n => absurd m n, fun b e => by
    obtain ⟨o', ho'⟩ := Option.isSome_iff_exists.mp e
    rw [hk₁ _ _ ho']; rfl⟩
  have sm0 : Sim C.pw g ads st s'.heap := ⟨fun a o e => hk₁ _ _ (z.gh _ _ e), z.nd, z.ag, z.hi, z.len, fun n a po e e' => (z.ob n a po e e').mono (fun a b e => e) (fun a b e => e) fun o e => hk₁ _ _ e⟩
  have gnone : ∀ b, s.heap.get? b = none → g b = none := fun b hb => by
    cases q : g b with
    | none => rfl
    | some o => have := z.gh _ _ q; rw [hb] at this; cases this
  have fr : FrOk env' (names.zip ps) g ads s'.heap := by
    refine ⟨by rw [esc]; exact hk, by rw [he]; rfl, by rw [he]; rfl, z.ads_fresh (fresh _ (Nat.le_of_eq el.symm)), gnone _ (fresh _ (Nat.le_of_eq el.symm)), ⟨_, x.toInCall.ns, fun y p hy hky => (bind_ok _ (fun _ => none) hnd vrs y p hy).1 hky⟩, fun y c hc => ?_, fun y y' c hc hc' => ?_, fun y p hy hky => ?_, fun y hy => ?_, nda⟩
    · have ab := x.above y c (memOf hc)
      rw [el] at ab
      exact ⟨by rw [el]; exact Nat.ne_of_gt ab, z.ads_fresh (fresh _ (Nat.le_of_lt ab)), fun _ => gnone _ (fresh _ (Nat.le_of_lt ab)), _, x.cell y c hc⟩
    · have ap := x.apart
      have m1 := memOf hc
      have m2 := memOf hc'
      have : ∀ {l : List (Str × Addr)}, l.Pairwise (fun x y => x.2 ≠ y.2) → (y, c) ∈ l → (y', c) ∈ l → y = y' := by
        intro l
        induction l with
        | nil => intro _ h _; cases h
        | cons p r ih =>
          intro hp h1 h2
          rw [List.pairwise_cons] at hp
          rcases List.mem_cons.mp h1 with e1 | h1
          · rcases List.mem_cons.mp h2 with e2 | h2
            · have := e1.trans e2.symm; exact congrArg Prod.fst this
            · exact absurd (by rw [← e1]) (hp.1 _ h2)
          · rcases List.mem_cons.mp h2 with e2 | h2
            · exact absurd (by rw [← e2]) (hp.1 _ h1)
            · exact ih hp.2 h1 h2
      exact this ap m1 m2
    · have kn : env'.kindOf y = scope.names.lookup y := by unfold Env.kindOf; rw [esc]
      have ykind : scope.names.lookup y = some .cell := by
        rcases hky with hky | hky
        · exact kn.symm.trans hky
        · have : (y, NameKind.free) ∈ scope.names := by
            have e := kn.symm.trans hky
            have : ∀ {l : List (Str × NameKind)} {k : NameKind}, l.lookup y = some k → (y, k) ∈ l := by
              intro l
              induction l with
              | nil => intro k h; cases h
              | cons p r ih =>
                intro k h
                obtain ⟨q1, q2⟩ := p
                rw [List.lookup_cons] at h
                split at h
                · rename_i e; cases h; rw [eq_of_beq e]; exact .head _
                · exact .tail _ (ih h)
            exact this e
          have := List.all_eq_true.mp hfree _ this
          simp at this
      have hkc : env'.kindOf y = some .cell := kn.trans ykind
      have hl : (env'.cells.lookup y).isSome = true := by rw [ec]; exact cellsFrom_some _ _ _ (.inl ykind)
      obtain ⟨c, hc⟩ := Option.isSome_iff_exists.mp hl
      obtain ⟨v, hv, vr⟩ := (bind_ok (kd := env'.kindOf) (fun _ => none) (fun _ => none) hnd vrs y p hy).2 (by rw [hkc]; simp)
      exact ⟨c, v, hc, by rw [← hv]; exact x.cell y c hc, vr⟩
    · have kn : env'.kindOf y = scope.names.lookup y := by unfold Env.kindOf; rw [esc]
      have hl : (env'.cells.lookup y).isSome = true := by rw [ec]; exact cellsFrom_some _ _ _ (.inl (kn.symm.trans hy))
      exact Option.isSome_iff_exists.mp hl
  have es' : s' = { s with heap := s'.heap, toks := s'.toks } := by rw [es]
  have ownFresh : ∀ b ∈ ownOf env', b ∈ ([] : List Addr) ∨ s.heap.get? b = none := fun b hb => .inr (by
    rcases List.mem_cons.mp hb with rfl | hb
    · exact fresh _ (Nat.le_of_eq el.symm)
    · obtain ⟨⟨y, c⟩, hm, rfl⟩ := List.mem_map.mp hb
      have ab := x.above y c hm
      rw [el] at ab
      exact fresh _ (Nat.le_of_lt ab))
  have fin : ∀ v s'', Res C.pw (ownOf env') g ads s' Q v s'' → Res C.pw [] g ads s Q v s'' := by
    rintro v s'' ⟨g', ads', pv, st', y, z', vr, q, e''⟩
    exact ⟨g', ads', pv, st', ((nx0.any).trans y).weaken ownFresh, z', vr, q, by rw [e'', es']⟩
  refine wpAny_mono (h (A.deeper env') env' g ads s' ⟨⟨a.hh, by have := a.dp; show A.depth + 1 + n < _; omega, by have := a.un; show A.units + 3 + 8 * n + 300 < _; omega⟩, esc, base, fr, sm0⟩) (fun fl s'' r => ?_) fun a b f => f.elim
  cases fl with
  | next =>
    obtain ⟨g', ads', ρ', st', y, z', _, q, e''⟩ := r
    exact fin .none s'' ⟨g', ads', .none, st', y, z', .none, q, e''⟩
  | ret v => exact fin v s'' r
  | brk => exact r.elim
  | cont => exact r.elim
theorem VR.handed {g : Fz} {ads : List Addr} {v : Value} {p : PV} (h : VR g ads v p) : handedIn v = true := by cases h <;> rfl

noncomputable def OpN (C : Ctx0) (n : Nat) (f : List Value → Sem Value) (ps : List PV) (st : List PObj) (Q : Post) : Prop :=
  ∀ A g ads s vs, AOk A n → (∀ b o, C.h₀.get? b = some o → g b = some o) → Sim C.pw g ads st s.heap → VRs g ads vs ps → wpAny (model C.prog C.w) A (f vs) (Res C.pw [] g ads s Q) No s

section
variable {C : Ctx0} {n : Nat} {sc : Scope} {ρ : List (Str × PV)} {st : List PObj} {Q : Post}

theorem evalGlobal {A : Around} {env : Env} {g : Fz} {ads : List Addr} {s : Shared} {x : Str} {pos : Pos} {v : Value} {R : Value → Shared → Prop} (z : At0 C n sc ρ st A env g ads s) (hk : sc.names.lookup x = some .globalImplicit)
    (e : nsIn (hd.heap_1 C.w.params) mainGlobals x = some (some v)) (hd : (x == ("__debug__" : Str)) = false) (h : R v s) : wpAny (model C.prog C.w) A (eval (.Name x pos) env) R No s := by
  have hg : s.heap.Ns env.globals C.mg := by rw [z.fr.glob]; exact z.bs.T.g
  exact Name_function_global z.fr.kind ((z.fr.kindOf z.sc x).trans hk) (loadGlobal_global hg (mg_of C.B.X C.B.T.g e) h) hd
theorem evalBuiltin {A : Around} {env : Env} {g : Fz} {ads : List Addr} {s : Shared} {x : Str} {pos : Pos} {v : Value} {R : Value → Shared → Prop} (z : At0 C n sc ρ st A env g ads s) (hk : sc.names.lookup x = some .globalImplicit)
    (e : nsIn (hd.heap_1 C.w.params) mainGlobals x = some none) (hv : bootBuiltins x = some v) (hn : x ≠ "__name__") (hd : (x == ("__debug__" : Str)) = false) (h : R v s) : wpAny (model C.prog C.w) A (eval (.Name x pos) env) R No s := by
  have hg : s.heap.Ns env.globals C.mg := by rw [z.fr.glob]; exact z.bs.T.g
  have hb : s.heap.Ns env.builtins C.mb := by rw [z.fr.bi]; exact z.bs.T.b
  exact Name_function_global z.fr.kind ((z.fr.kindOf z.sc x).trans hk) (loadGlobal_builtin hg (mg_none_of C.B.X C.B.T.g e) hb ((C.B.T.builtins x hn).trans hv) h) hd

theorem W.call {x : Str} {px pos : Pos} {e : Expr} {es : List Expr} {f : Addr} (hk : sc.names.lookup x = some .globalImplicit) (hx : nsIn (hd.heap_1 C.w.params) mainGlobals x = some (some (.ref f)))
    (hkeep : keepIn (hd.heap_1 C.w.params) (.ref f) = true) (hd : (x == ("__debug__" : Str)) = false)
    (he : ∀ env, eval (.Call (.Name x px) (e :: es) [] pos) env = (do callWith pos (← eval (.Name x px) env) [] (backTo pos (starEach (e :: es) env)) (backToKw pos (keywordEach [] env))))
    (hs : ∀ env, starEach (e :: es) env = (false, eval e env) :: starEach es env) (hp : ∀ env, (backTo pos (starEach es env)).any (·.1) = false)
    (h : Ws C n sc (e :: es) ρ st (fun ps st₁ => CF C n f ps st₁ Q)) : W C n sc (.Call (.Name x px) (e :: es) [] pos) ρ st Q := by
  intro A env g ads s z
  refine Call_ (evalGlobal z hk hx hd ?_) (he env)
  refine callWith_K (h₀ := C.h₀) C.B.X hkeep (Ws.run h z fun vs s₁ g₁ ads₁ ps st₁ z₁ x₁ e₁ vrs q => ⟨z₁.bs.X, ?_⟩) (hs env) (hp env)
  rw [List.nil_append]
  exact wpAny_mono (q A g₁ ads₁ s₁ vs z.a z₁.base z₁.sim vrs) (fun v s' r => r.step x₁ e₁) fun a b f => f
theorem W.call0 {x : Str} {px pos : Pos} {f : Addr} (hk : sc.names.lookup x = some .globalImplicit) (hx : nsIn (hd.heap_1 C.w.params) mainGlobals x = some (some (.ref f)))
    (hkeep : keepIn (hd.heap_1 C.w.params) (.ref f) = true) (hd : (x == ("__debug__" : Str)) = false)
    (he : ∀ env, eval (.Call (.Name x px) [] [] pos) env = (do callWith pos (← eval (.Name x px) env) [] (backTo pos (starEach [] env)) (backToKw pos (keywordEach [] env))))
    (h : CF C n f [] st Q) : W C n sc (.Call (.Name x px) [] [] pos) ρ st Q := by
  intro A env g ads s z
  refine Call_ (evalGlobal z hk hx hd ?_) (he env)
  refine callWith_K0 z.bs.X hkeep ?_
  exact h A g ads s [] z.a z.base z.sim .nil

theorem W.callB {x : Str} {px pos : Pos} {e : Expr} {es : List Expr} {id : String} (hk : sc.names.lookup x = some .globalImplicit) (hx : nsIn (hd.heap_1 C.w.params) mainGlobals x = some none)
    (hv : bootBuiltins x = some (.builtin id)) (hn : x ≠ "__name__") (hd : (x == ("__debug__" : Str)) = false)
    (he : ∀ env, eval (.Call (.Name x px) (e :: es) [] pos) env = (do callWith pos (← eval (.Name x px) env) [] (backTo pos (starEach (e :: es) env)) (backToKw pos (keywordEach [] env))))
    (hs : ∀ env, starEach (e :: es) env = (false, eval e env) :: starEach es env) (hp : ∀ env, (backTo pos (starEach es env)).any (·.1) = false)
    (h : Ws C n sc (e :: es) ρ st (fun ps st₁ => OpN C n (fun vs => PySem.call (.builtin id) vs) ps st₁ Q)) : W C n sc (.Call (.Name x px) (e :: es) [] pos) ρ st Q := by
  intro A env g ads s z
  refine Call_ (evalBuiltin z hk hx hv hn hd ?_) (he env)
  refine PyProof.Rows.callWith_builtin1 (Ws.run h z fun vs s₁ g₁ ads₁ ps st₁ z₁ x₁ e₁ vrs q => ?_) (hs env) (hp env)
  exact wpAny_mono (q A g₁ ads₁ s₁ vs z.a z₁.base z₁.sim vrs) (fun v s' r => r.step x₁ e₁) fun a b f => f
theorem W.callT {x : Str} {px pos : Pos} {e : Expr} {es : List Expr} {T : String} (hk : sc.names.lookup x = some .globalImplicit) (hx : nsIn (hd.heap_1 C.w.params) mainGlobals x = some none)
    (hv : bootBuiltins x = some (.type T)) (hn : x ≠ "__name__") (hd : (x == ("__debug__" : Str)) = false)
    (he : ∀ env, eval (.Call (.Name x px) (e :: es) [] pos) env = (do callWith pos (← eval (.Name x px) env) [] (backTo pos (starEach (e :: es) env)) (backToKw pos (keywordEach [] env))))
    (hs : ∀ env, starEach (e :: es) env = (false, eval e env) :: starEach es env) (hp : ∀ env, (backTo pos (starEach es env)).any (·.1) = false)
    (h : Ws C n sc (e :: es) ρ st (fun ps st₁ => OpN C n (fun vs => PySem.call (.type T) vs) ps st₁ Q)) : W C n sc (.Call (.Name x px) (e :: es) [] pos) ρ st Q := by
  intro A env g ads s z
  refine Call_ (evalBuiltin z hk hx hv hn hd ?_) (he env)
  refine PyProof.Rows.callWith_type1 (Ws.run h z fun vs s₁ g₁ ads₁ ps st₁ z₁ x₁ e₁ vrs q => ?_) (hs env) (hp env)
  exact wpAny_mono (q A g₁ ads₁ s₁ vs z.a z₁.base z₁.sim vrs) (fun v s' r => r.step x₁ e₁) fun a b f => f

/-! ## objects' kinds -/
noncomputable def isList (st : List PObj) : PV → Bool
  | .loc i => match st[i]? with | some (.list _) => true | _ => false
  | _ => false
noncomputable def isDict (st : List PObj) : PV → Bool
  | .loc i => match st[i]? with | some (.sd _ _) => true | _ => false
  | _ => false

theorem Sim.ref {P : PW} {g : Fz} {ads : List Addr} {h : Heap} (z : Sim P g ads st h) {v : Value} {i : Nat} (vr : VR g ads v (.loc i)) {po : PObj} (e : st[i]? = some po) : ∃ a, v = .ref a ∧ ads[i]? = some a ∧ OR P g ads h a po := by
  cases vr with
  | loc ha => exact ⟨_, rfl, ha, z.ob _ _ _ ha e⟩

theorem method_builtin {T : String} {name : Str} {id : String} {A : Around} {s : Shared} {pl : Sem Bool} {a : Addr} {ob : Obj} {R : Value × List Value → Shared → Prop} (ho : s.heap.get? a = some ob) (hc : ob.cls = .type T) (hd : ob.dict = none) (pa : PlainAttrs T) (slot : Slot T name id)
    (hty : typeOf (.builtin id) = pure (.type "method_descriptor")) (k : R (.builtin id, [.ref a]) s) : wpAny (model C.prog C.w) A (getMethod (.ref a) name pl) R No s :=
  getMethod_builtin (T := T) ⟨ob, ho, hc⟩ pa slot hty (fun a' e => by cases e; exact ⟨ob, ho, hd⟩) k

theorem W.methB {o : Expr} {name : Str} {apos pos : Pos} {e : Expr} {es : List Expr} {T id : String} (pa : PlainAttrs T) (slot : Slot T name id)
    (hty : typeOf (.builtin id) = pure (.type "method_descriptor")) {pl : Env → Sem Bool}
    (he : ∀ env, eval (.Call (.Attribute o name apos) (e :: es) [] pos) env = (do
      let ov ← eval o env
      standAt apos.atName
      let (f, first) ← holding [ov] (getMethod ov name (pl env))
      callWith pos f first (backTo pos (starEach (e :: es) env)) []))
    (hs : ∀ env, starEach (e :: es) env = (false, eval e env) :: starEach es env) (hp : ∀ env, (backTo pos (starEach es env)).any (·.1) = false)
    (h : W C n sc o ρ st (fun p st₁ => (if T = "dict" then isDict st₁ p = true else T = "list" ∧ isList st₁ p = true) ∧ Ws C n sc (e :: es) ρ st₁ (fun ps st₂ => OpN C n (fun vs => PySem.call (.builtin id) vs) (p :: ps) st₂ Q))) :
    W C n sc (.Call (.Attribute o name apos) (e :: es) [] pos) ρ st Q := by
  intro A env g ads s z
  refine MethodCall_ (pl := pl env) (then_ h z fun v s₁ g₁ ads₁ p st₁ z₁ x₁ e₁ vr q => ?_) (he env)
  obtain ⟨kd, q⟩ := q
  have ob : ∃ a o, v = .ref a ∧ s₁.heap.get? a = some o ∧ o.cls = .type T ∧ o.dict = none := by
    split at kd
    · rename_i hT
      subst hT
      unfold isDict at kd
      split at kd
      · rename_i i
        split at kd
        · rename_i kvs hi
          obtain ⟨a, ev, _, or⟩ := z₁.sim.ref vr hi
          cases or with
          | sd e r =>
            obtain ⟨o, es, ho, hx, hdt, _⟩ := e
            exact ⟨a, o, ev, ho, hx.1, hx.2.1⟩
        · cases kd
      · cases kd
    · obtain ⟨hT, kd⟩ := kd
      subst hT
      unfold isList at kd
      split at kd
      · rename_i i
        split at kd
        · rename_i kvs hi
          obtain ⟨a, ev, _, or⟩ := z₁.sim.ref vr hi
          cases or with
          | list e r => exact ⟨a, _, ev, e, rfl, rfl⟩
        · cases kd
      · cases kd
  obtain ⟨a, ob, rfl, ho, hc, hd⟩ := ob
  refine method_builtin ho hc hd pa slot hty ?_
  refine PyProof.Rows.callWith_method1 (Ws.run q z₁ fun vs s₂ g₂ ads₂ ps st₂ z₂ x₂ e₂ vrs q₂ => ?_) (hs env) (hp env)
  exact wpAny_mono (q₂ A g₂ ads₂ s₂ (.ref a :: vs) z.a z₂.base z₂.sim (.cons (vr.mono x₂.gsub x₂.idx) vrs)) (fun v s' r => (r.step x₂ e₂).step x₁ e₁) fun a b f => f
theorem W.methB0 {o : Expr} {name : Str} {apos pos : Pos} {T id : String} (pa : PlainAttrs T) (slot : Slot T name id)
    (hty : typeOf (.builtin id) = pure (.type "method_descriptor")) {pl : Env → Sem Bool}
    (he : ∀ env, eval (.Call (.Attribute o name apos) [] [] pos) env = (do
      let ov ← eval o env
      standAt apos.atName
      let (f, first) ← holding [ov] (getMethod ov name (pl env))
      callWith pos f first (backTo pos (starEach [] env)) []))
    (h : W C n sc o ρ st (fun p st₁ => T = "list" ∧ isList st₁ p = true ∧ OpN C n (fun vs => PySem.call (.builtin id) vs) [p] st₁ Q)) :
    W C n sc (.Call (.Attribute o name apos) [] [] pos) ρ st Q := by
  intro A env g ads s z
  refine MethodCall_ (pl := pl env) (then_ h z fun v s₁ g₁ ads₁ p st₁ z₁ x₁ e₁ vr q => ?_) (he env)
  obtain ⟨hT, kd, q⟩ := q
  subst hT
  unfold isList at kd
  split at kd
  · rename_i i
    split at kd
    · rename_i kvs hi
      obtain ⟨a, ev, _, or⟩ := z₁.sim.ref vr hi
      subst ev
      cases or with
      | list e r =>
        refine method_builtin e rfl rfl pa slot hty ?_
        refine PyProof.Rows.callWith_method0 ?_
        exact wpAny_mono (q A g₁ ads₁ s₁ [.ref a] z.a z₁.base z₁.sim (.cons vr .nil)) (fun v s' r => r.step x₁ e₁) fun a b f => f
    · cases kd
  · cases kd

/-! ## instances -/
theorem isStr_self (x : Str) (t : Tok) : (Value.str x t).isStr x = true := by
  show (x == x) = true
  simp
theorem isStr_ne {x y : Str} (t : Tok) (h : (x == y) = false) : (Value.str y t).isStr x = false := by
  show (y == x) = false
  have : x ≠ y := by simpa using h
  simpa using fun q : y = x => this q.symm
theorem getL_hit {x : Str} {hsh : Int} {t : Tok} {v : Value} {es : List DictEntry} : getL x (⟨hsh, .str x t, v⟩ :: es) = some (some v) := by
  unfold getL
  rw [List.find?_cons]
  simp only [isStr_self]
theorem getL_miss {x y : Str} {hsh : Int} {t : Tok} {v : Value} {es : List DictEntry} (h : (x == y) = false) : getL x (⟨hsh, .str y t, v⟩ :: es) = getL x es := by
  unfold getL
  rw [List.find?_cons, List.any_cons]
  simp only [isStr_ne t h]
  rfl
theorem get_some {g : Fz} {ads : List Addr} {x : Str} {p : PV} {es : List DictEntry} {fs : List (Str × PV)} (h : VRf g ads es fs) (e : fs.lookup x = some p) : ∃ v, getL x es = some (some v) ∧ VR g ads v p :=
  VRf.ind (P := fun es fs => fs.lookup x = some p → ∃ v, getL x es = some (some v) ∧ VR g ads v p) (fun h => by cases h) (fun {_ y _ v _ _ _} hv hr ih h => by
    rw [List.lookup_cons] at h
    cases e : x == y with
    | true =>
      rw [e] at h
      obtain rfl := eq_of_beq e
      exact ⟨v, getL_hit, Option.some.inj h ▸ hv⟩
    | false =>
      rw [e] at h
      rw [getL_miss e]
      exact ih h) h e
theorem get_none {g : Fz} {ads : List Addr} {x : Str} {es : List DictEntry} {fs : List (Str × PV)} (h : VRf g ads es fs) (e : fs.lookup x = none) : getL x es = some none :=
  VRf.ind (P := fun es fs => fs.lookup x = none → getL x es = some none) (fun h => rfl) (fun {_ y _ v _ _ _} hv hr ih h => by
    rw [List.lookup_cons] at h
    cases e : x == y with
    | true => rw [e] at h; cases h
    | false =>
      rw [e] at h
      rw [getL_miss e]
      exact ih h) h e

theorem W.attr {o : Expr} {name : Str} {pos : Pos} {attr : Option Value} (hg : plainGet (hd.heap_1 C.w.params) 150 name = true) (hh : hasDictIn (hd.heap_1 C.w.params) 150 = true)
    (ha : findIn (hd.heap_1 C.w.params) (.ref 150) name = some attr) (hn : noGet (hd.heap_1 C.w.params) attr = true)
    (hb : ∀ env, attributeBase o name env (eval o env) = eval o env)
    (h : W C n sc o ρ st (fun p st₁ => ∃ fs q, p = .inst fs ∧ fs.lookup name = some q ∧ Q q st₁)) : W C n sc (.Attribute o name pos) ρ st Q := by
  intro A env g ads s z
  rw [arm_eval_Attribute, hb env]
  refine wpAny_bind (then_ h z fun v s₁ g₁ ads₁ p st₁ z₁ x₁ e₁ vr q => ?_)
  obtain ⟨fs, q', rfl, hf, hq⟩ := q
  cases vr with
  | @inst a dx es k fs ga gd r =>
    obtain ⟨v', hl, vr'⟩ := get_some r hf
    refine wpAny_bind (wpAny_standAt (wpAny_bind (wpAny_holding ?_)))
    refine get_value z₁.bs.X ⟨z₁.sim.gh _ _ ga, rfl, rfl, z₁.sim.gh _ _ gd⟩ (plainGet_of hg).1 (findObj_own hh ha hn (by rw [lookIn_dict]; exact hl)) vr'.handed ?_
    exact wpAny_bind (wpAny_letTemporaryGo (wpAny_pure ((Res.here z₁.sim vr' hq).step x₁ e₁)))

theorem W.methI {o : Expr} {name : Str} {apos pos : Pos} {e : Expr} {es : List Expr} {f : Addr} (hg : plainGet (hd.heap_1 C.w.params) 150 name = true) (hf : findIn (hd.heap_1 C.w.params) (.ref 150) name = some (some (.ref f)))
    (ht : isFn (hd.heap_1 C.w.params) (.ref f) = true) (hkeep : keepIn (hd.heap_1 C.w.params) (.ref f) = true) {pl : Env → Sem Bool}
    (he : ∀ env, eval (.Call (.Attribute o name apos) (e :: es) [] pos) env = (do
      let ov ← eval o env
      standAt apos.atName
      let (f, first) ← holding [ov] (getMethod ov name (pl env))
      callWith pos f first (backTo pos (starEach (e :: es) env)) []))
    (hs : ∀ env, starEach (e :: es) env = (false, eval e env) :: starEach es env) (hp : ∀ env, (backTo pos (starEach es env)).any (·.1) = false)
    (h : W C n sc o ρ st (fun p st₁ => (∃ fs, p = .inst fs ∧ fs.lookup name = none) ∧ Ws C n sc (e :: es) ρ st₁ (fun ps st₂ => CF C n f (p :: ps) st₂ Q))) :
    W C n sc (.Call (.Attribute o name apos) (e :: es) [] pos) ρ st Q := by
  intro A env g ads s z
  refine MethodCall_ (pl := pl env) (then_ h z fun v s₁ g₁ ads₁ p st₁ z₁ x₁ e₁ vr q => ?_) (he env)
  obtain ⟨⟨fs, rfl, hfs⟩, q⟩ := q
  have vr0 := vr
  cases vr with
  | @inst a dx es k fs ga gd r =>
    have I : PySem.W.InstAt s₁.heap a (instObj 150 dx) 150 (some (dictOf es k)) := ⟨z₁.sim.gh _ _ ga, rfl, rfl, z₁.sim.gh _ _ gd⟩
    refine method_fn z₁.bs.X I (plainGet_of hg).1 (plainGet_of hg).2 hf (beq_iff_eq.mp ht) (by show (lookIn name (dictOf es k)).map _ = _; rw [lookIn_dict, get_none r hfs]; rfl) ?_
    refine callWith_K (h₀ := C.h₀) C.B.X hkeep (Ws.run q z₁ fun vs s₂ g₂ ads₂ ps st₂ z₂ x₂ e₂ vrs q₂ => ⟨z₂.bs.X, ?_⟩) (hs env) (hp env)
    exact wpAny_mono (q₂ A g₂ ads₂ s₂ (.ref a :: vs) z.a z₂.base z₂.sim (.cons (vr0.mono x₂.gsub x₂.idx) vrs)) (fun v s' r => (r.step x₂ e₂).step x₁ e₁) fun a b f => f
end
noncomputable abbrev PostB := Bool → List PObj → Prop
inductive ResB (P : PW) (g : Fz) (ads : List Addr) (s : Shared) (Q : PostB) (b : Bool) (s' : Shared) : Prop
  | mk (g' : Fz) (ads' : List Addr) (st' : List PObj) (nx : Nx [] g ads s.heap g' ads' s'.heap) (sm : Sim P g' ads' st' s'.heap) (q : Q b st') (e : s' = { s with heap := s'.heap, toks := s'.toks })
theorem ResB.step {P : PW} {g : Fz} {ads : List Addr} {s s₁ : Shared} {Q : PostB} {b : Bool} {s' : Shared} {g₁ : Fz} {ads₁ : List Addr}
    (x : Nx [] g ads s.heap g₁ ads₁ s₁.heap) (e : s₁ = { s with heap := s₁.heap, toks := s₁.toks }) (r : ResB P g₁ ads₁ s₁ Q b s') : ResB P g ads s Q b s' := by
  obtain ⟨g', ads', st', y, z, q, e'⟩ := r
  exact ⟨g', ads', st', x.trans y, z, q, by rw [e', e]⟩

noncomputable def T (C : Ctx0) (n : Nat) (sc : Scope) (e : Expr) (ρ : List (Str × PV)) (st : List PObj) (Q : PostB) : Prop :=
  ∀ A env g ads s, At0 C n sc ρ st A env g ads s → wpAny (model C.prog C.w) A (isTrue e env (eval e env)) (ResB C.pw g ads s Q) No s
/-- the rest of an and, of an or -/
noncomputable def Tl (C : Ctx0) (n : Nat) (sc : Scope) (op : BoolOp) (es : List Expr) (pos : Pos) (ρ : List (Str × PV)) (st : List PObj) (Q : PostB) : Prop :=
  ∀ A env g ads s whole, At0 C n sc ρ st A env g ads s → wpAny (model C.prog C.w) A (isTrue (.BoolOp op es pos) env whole) (ResB C.pw g ads s Q) No s
section
variable {C : Ctx0} {n : Nat} {sc : Scope} {ρ : List (Str × PV)} {st : List PObj}

theorem T.run {e : Expr} {Q₁ : PostB} {A : Around} {env : Env} {g : Fz} {ads : List Addr} {s : Shared} {R : Bool → Shared → Prop} (h : T C n sc e ρ st Q₁)
    (x : At0 C n sc ρ st A env g ads s)
    (k : ∀ b s₁ g₁ ads₁ st₁, At0 C n sc ρ st₁ A env g₁ ads₁ s₁ → Nx [] g ads s.heap g₁ ads₁ s₁.heap → s₁ = { s with heap := s₁.heap, toks := s₁.toks } → Q₁ b st₁ → R b s₁) :
    wpAny (model C.prog C.w) A (isTrue e env (eval e env)) R No s :=
  wpAny_mono (h A env g ads s x) (fun v s₁ ⟨g₁, ads₁, st₁, y, z, q, e₁⟩ => k v s₁ g₁ ads₁ st₁ (x.next y z) y e₁ q) fun a b f => f

theorem T.plain {e : Expr} {Q : PostB} (he : ∀ env, isTrue e env (eval e env) = (do let v ← eval e env; standAt e.pos; holding [v] (truthy v))) (h : W C n sc e ρ st (fun p st₁ => ∃ b, p = .bool b ∧ Q b st₁)) : T C n sc e ρ st Q := by
  intro A env g ads s z
  refine isTrue_plain (then_ h z fun v s₁ g₁ ads₁ p st₁ z₁ x₁ e₁ vr q => ?_) (he env)
  obtain ⟨b, rfl, q⟩ := q
  cases vr
  exact wpAny_truthy_bool ⟨g₁, ads₁, st₁, x₁, z₁.sim, q, e₁⟩
theorem T.cmp {l r : Expr} {op : CmpOp} {pos : Pos} {Q : PostB} (hm : behindInMarks op r = false) (h : W C n sc l ρ st (fun a st₁ => W C n sc r ρ st₁ (fun b st₂ => Op2 C n (compareOp op) a b st₂ (fun p st₃ => ∃ b, p = .bool b ∧ Q b st₃)))) : T C n sc (.Compare l [op] [r] pos) ρ st Q := by
  intro A env g ads s z
  refine wpAny_isTrue_Compare1 (then_ h z fun va s₁ g₁ ads₁ a st₁ z₁ x₁ e₁ vra q₁ => then_ q₁ z₁ fun vb s₂ g₂ ads₂ b st₂ z₂ x₂ e₂ vrb q₂ => ?_) hm
  refine wpAny_mono (q₂ A g₂ ads₂ s₂ va vb z.a z₂.base z₂.sim (vra.mono x₂.gsub x₂.idx) vrb) (fun v s₃ r => ?_) fun a b f => f
  obtain ⟨g₃, ads₃, p, st₃, x₃, z₃, vr, ⟨b, rfl, q⟩, e₃⟩ := (r.step x₂ e₂).step x₁ e₁
  cases vr
  exact wpAny_truthy_bool ⟨g₃, ads₃, st₃, x₃, z₃, q, e₃⟩
theorem T.not {e : Expr} {pos : Pos} {Q : PostB} (h : T C n sc e ρ st (fun b st₁ => Q (!b) st₁)) : T C n sc (.UnaryOp .Not e pos) ρ st Q := by
  intro A env g ads s z
  exact isTrue_not (T.run h z fun b s₁ g₁ ads₁ st₁ z₁ x₁ e₁ q => ⟨g₁, ads₁, st₁, x₁, z₁.sim, q, e₁⟩)
theorem T.bool {op : BoolOp} {es : List Expr} {pos : Pos} {Q : PostB} (h : Tl C n sc op es pos ρ st Q) : T C n sc (.BoolOp op es pos) ρ st Q := fun A env g ads s z => h A env g ads s _ z
theorem Tl.or_nil {pos : Pos} {Q : PostB} (q : Q false st) : Tl C n sc .Or [] pos ρ st Q := fun A env g ads s whole z => isTrue_or_nil ⟨g, ads, st, Nx.refl _ _ _ _, z.sim, q, rfl⟩
theorem Tl.or {e : Expr} {es : List Expr} {pos : Pos} {Q : PostB} (h : T C n sc e ρ st (fun b st₁ => (b = true → Q true st₁) ∧ (b = false → Tl C n sc .Or es pos ρ st₁ Q))) : Tl C n sc .Or (e :: es) pos ρ st Q := by
  intro A env g ads s whole z
  refine isTrue_or (T.run h z fun b s₁ g₁ ads₁ st₁ z₁ x₁ e₁ q => ?_)
  cases b with
  | true => exact ⟨g₁, ads₁, st₁, x₁, z₁.sim, q.1 rfl, e₁⟩
  | false => exact wpAny_mono (q.2 rfl A env g₁ ads₁ s₁ _ z₁) (fun v s' r => r.step x₁ e₁) fun a b f => f

theorem W.and1 {op : BoolOp} {e : Expr} {pos : Pos} {Q : Post} (h : W C n sc e ρ st Q) : W C n sc (.BoolOp op [e] pos) ρ st Q := fun A env g ads s z => BoolOp_one (h A env g ads s z)
theorem W.and {e₁ e₂ : Expr} {es : List Expr} {pos : Pos} {Q : Post} (h : W C n sc e₁ ρ st (fun p st₁ => ∃ b, p = .bool b ∧ (b = true → W C n sc (.BoolOp .And (e₂ :: es) pos) ρ st₁ Q) ∧ (b = false → Q (.bool false) st₁))) :
    W C n sc (.BoolOp .And (e₁ :: e₂ :: es) pos) ρ st Q := by
  intro A env g ads s z
  refine BoolOp_and (then_ h z fun v s₁ g₁ ads₁ p st₁ z₁ x₁ e₁ vr q => ?_)
  obtain ⟨b, rfl, q⟩ := q
  cases vr
  refine wpAny_truthy_bool ?_
  cases b with
  | true => exact wpAny_mono (q.1 rfl A env g₁ ads₁ s₁ z₁) (fun v s' r => r.step x₁ e₁) fun a b f => f
  | false => exact (Res.here0 z₁.sim (.bool _) (q.2 rfl)).step x₁ e₁
theorem W.or {e₁ e₂ : Expr} {es : List Expr} {pos : Pos} {Q : Post} (h : W C n sc e₁ ρ st (fun p st₁ => ∃ b, p = .bool b ∧ (b = true → Q (.bool true) st₁) ∧ (b = false → W C n sc (.BoolOp .Or (e₂ :: es) pos) ρ st₁ Q))) :
    W C n sc (.BoolOp .Or (e₁ :: e₂ :: es) pos) ρ st Q := by
  intro A env g ads s z
  refine BoolOp_or (then_ h z fun v s₁ g₁ ads₁ p st₁ z₁ x₁ e₁ vr q => ?_)
  obtain ⟨b, rfl, q⟩ := q
  cases vr
  refine wpAny_truthy_bool ?_
  cases b with
  | true => exact (Res.here0 z₁.sim (.bool _) (q.1 rfl)).step x₁ e₁
  | false => exact wpAny_mono (q.2 rfl A env g₁ ads₁ s₁ z₁) (fun v s' r => r.step x₁ e₁) fun a b f => f
theorem W.ifexp {t a b : Expr} {pos : Pos} {Q : Post} (h : T C n sc t ρ st (fun c st₁ => (c = true → W C n sc a ρ st₁ Q) ∧ (c = false → W C n sc b ρ st₁ Q))) : W C n sc (.IfExp t a b pos) ρ st Q := by
  intro A env g ads s z
  refine IfExp_ (T.run h z fun c s₁ g₁ ads₁ st₁ z₁ x₁ e₁ q => ?_)
  cases c with
  | true => exact wpAny_mono (q.1 rfl A env g₁ ads₁ s₁ z₁) (fun v s' r => r.step x₁ e₁) fun a b f => f
  | false => exact wpAny_mono (q.2 rfl A env g₁ ads₁ s₁ z₁) (fun v s' r => r.step x₁ e₁) fun a b f => f

variable {Qn : PostN} {Qr : Post}
theorem X1.if_ {t : Expr} {a b : List Stmt} {pos : Pos} (h : T C n sc t ρ st (fun c st₁ => (c = true → X C n sc a ρ st₁ Qn Qr) ∧ (c = false → X C n sc b ρ st₁ Qn Qr))) : X1 C n sc (.If t a b pos) ρ st Qn Qr := by
  intro A env g ads s z
  refine wpAny_If (T.run h z fun c s₁ g₁ ads₁ st₁ z₁ x₁ e₁ q => ?_)
  cases c with
  | true => exact wpAny_mono (q.1 rfl A env g₁ ads₁ s₁ z₁) (fun v s' r => r.step x₁.any e₁) fun a b f => f
  | false => exact wpAny_mono (q.2 rfl A env g₁ ads₁ s₁ z₁) (fun v s' r => r.step x₁.any e₁) fun a b f => f
theorem interactive_no {env : Env} (h : env.scope.kind = .function) : interactive env = false := by
  unfold interactive
  rw [h]
  rfl
theorem X1.expr {e : Expr} {pos : Pos} (hs : ∀ env, swapsWith e none pos.line env = pure false) (h : W C n sc e ρ st (fun _ st₁ => Qn ρ st₁)) : X1 C n sc (.Expr e pos) ρ st Qn Qr := by
  intro A env g ads s z
  refine wpAny_Expr_any (then_ h z fun v s₁ g₁ ads₁ p st₁ z₁ x₁ e₁ vr q => ?_) (interactive_no z.fr.kind) (hs env)
  exact ⟨g₁, ads₁, ρ, st₁, x₁.any, z₁.sim, z₁.fr, q, e₁⟩
end
/-! ## pure dicts -/
open Classical in
noncomputable def tget (kvs : List (PV × PV)) (p : PV) : Option PV := (kvs.find? fun x => decide (x.1 = p)).map (·.2)

theorem lookup_find {β : Type} (x : Str) : ∀ (l : List (Str × β)), l.lookup x = (l.find? fun kv => decide (kv.1 = x)).map (·.2)
  | [] => rfl
  | (y, b) :: r => by
    rw [List.lookup_cons, List.find?_cons]
    by_cases h : y = x
    · subst h; simp
    · have h1 : (x == y) = false := by simpa using fun e : x = y => h e.symm
      have h2 : decide (y = x) = false := by simpa using h
      simp only [h1, h2]
      exact lookup_find x r
theorem VRk.look {g : Fz} {ads : List Addr} {x : Str} : ∀ {es : List (Str × Value)} {kvs : List (Str × PV)}, VRk g ads es kvs → (∀ p, kvs.lookup x = some p → ∃ v, valueAt es x = some v ∧ VR g ads v p) ∧ (kvs.lookup x = none → valueAt es x = none)
  | _, _, .nil => ⟨fun p h => (by cases h), fun e => rfl⟩
  | _, _, .cons (x := y) hv hr => by
    unfold valueAt
    rw [← lookup_find]
    rw [List.lookup_cons, List.lookup_cons]
    cases e : x == y with
    | true => exact ⟨fun p h => (by cases h; exact ⟨_, rfl, hv⟩), fun h => (by cases h)⟩
    | false =>
      have := hr.look (x := x)
      unfold valueAt at this
      rw [← lookup_find] at this
      exact this
theorem VRk.keys {g : Fz} {ads : List Addr} : ∀ {es : List (Str × Value)} {kvs : List (Str × PV)}, VRk g ads es kvs → es.map (·.1) = kvs.map (·.1)
  | _, _, .nil => rfl
  | _, _, .cons hv hr => by rw [List.map_cons, List.map_cons, hr.keys]
theorem VRk.length {g : Fz} {ads : List Addr} {es : List (Str × Value)} {kvs : List (Str × PV)} (h : VRk g ads es kvs) : es.length = kvs.length := by
  have := congrArg List.length h.keys
  simpa using this
theorem VRk.put {g : Fz} {ads : List Addr} {x : Str} {v : Value} {p : PV} (hv : VR g ads v p) : ∀ {es : List (Str × Value)} {kvs : List (Str × PV)}, VRk g ads es kvs → (es.map (·.1)).Nodup → VRk g ads (stored es x v) (upd kvs x p) := by
  intro es kvs h
  have off : ∀ {es : List (Str × Value)}, x ∉ es.map (·.1) → (es.map fun kv => if kv.1 = x then (kv.1, v) else kv) = es := fun hn => map_store_of_not_mem _ _ _ hn
  induction h with
  | nil => intro _; exact .cons hv .nil
  | @cons y w q es kvs h1 h2 ih =>
    intro hn
    rw [List.map_cons, List.nodup_cons] at hn
    unfold upd
    by_cases e : y = x
    · subst e
      rw [if_pos (by simp)]
      unfold stored
      rw [if_pos (by simp)]
      rw [List.map_cons, if_pos rfl, off hn.1]
      exact .cons hv h2
    · rw [if_neg (by simpa using e)]
      have ih' := ih hn.2
      unfold stored at ih' ⊢
      rw [List.any_cons]
      have : decide (y = x) = false := by simpa using e
      simp only [this, Bool.false_or]
      split
      · rename_i q'
        rw [if_pos q'] at ih'
        rw [List.map_cons, if_neg e]
        exact .cons h1 ih'
      · rename_i q'
        rw [if_neg q'] at ih'
        exact .cons h1 ih'

theorem nodup_idx {α : Type} : ∀ {l : List α} {i j : Nat} {a : α}, l.Nodup → l[i]? = some a → l[j]? = some a → i = j
  | [], _, _, _, _, h, _ => by simp at h
  | x :: l, 0, 0, _, _, _, _ => rfl
  | x :: l, 0, j + 1, a, hn, hi, hj => by
    simp only [List.getElem?_cons_zero, Option.some.injEq] at hi
    simp only [List.getElem?_cons_succ] at hj
    subst hi
    exact absurd (List.mem_of_getElem? hj) (List.nodup_cons.mp hn).1
  | x :: l, i + 1, 0, a, hn, hi, hj => by
    simp only [List.getElem?_cons_zero, Option.some.injEq] at hj
    simp only [List.getElem?_cons_succ] at hi
    subst hj
    exact absurd (List.mem_of_getElem? hi) (List.nodup_cons.mp hn).1
  | x :: l, i + 1, j + 1, a, hn, hi, hj => by
    simp only [List.getElem?_cons_succ] at hi hj
    rw [nodup_idx (List.nodup_cons.mp hn).2 hi hj]

/-- what lies at a place may change -/
theorem change {P : PW} {g : Fz} {ads : List Addr} {st : List PObj} {h h' : Heap} {i : Nat} {a : Addr} {po : PObj} (z : Sim P g ads st h) (hi : ads[i]? = some a) (hs : Heap.SameBut a h h') (ho : OR P g ads h' a po) :
    Nx [] g ads h g ads h' ∧ Sim P g ads (st.set i po) h' := by
  have ga : g a = none := z.ag a (List.mem_of_getElem? hi)
  refine ⟨⟨fun a b e => e, ⟨[], by simp⟩, fun b o n _ e => (hs.2 b fun q => n (q ▸ List.mem_of_getElem? hi)).trans e, fun a n o e => (by rw [n] at e; cases e), fun _ m n => absurd m n, fun b e => ?_⟩,
    ⟨fun b o e => ?_, z.nd, z.ag, z.hi, by rw [List.length_set]; exact z.len, fun n b p hb hp => ?_⟩⟩
  · by_cases q : b = a
    · obtain ⟨o, q'⟩ := ho.there; rw [q, q']; rfl
    · rw [hs.2 b q]; exact e
  · refine (hs.2 b fun q => ?_).trans (z.gh _ _ e)
    rw [q, ga] at e; cases e
  · by_cases q : n = i
    · subst q
      rw [hi] at hb; cases hb
      obtain ⟨l, _⟩ := List.getElem?_eq_some_iff.mp hi
      rw [List.getElem?_set_self (z.len ▸ l)] at hp
      cases hp
      exact ho
    · rw [List.getElem?_set_ne (Ne.symm q)] at hp
      have ne : b ≠ a := fun e => by
        subst e
        exact q (nodup_idx z.nd hb hi)
      exact (z.ob n b p hb hp).mono (fun a b e => e) (fun a b e => e) fun o e => (hs.2 b ne).trans e

section
variable {C : Ctx0} {n : Nat} {sc : Scope} {ρ : List (Str × PV)} {st : List PObj} {Q : Post}
theorem not_modules {a : Addr} (h : mainGlobals < a) : (a == sysModules) = false := by
  have : a ≠ 1 := fun e => by rw [e] at h; exact absurd h (by decide)
  simpa [sysModules] using this
theorem isStrOf_self (x : Str) (t : Tok) : (PySem.strKind C.prog C.w).is x (.str x t) = true := by simp [PySem.strKind, Value.isStrOf]

/-! ## equality -/
theorem Op2.eqD {a b : PV} (ha : dtOk 10 a = true) (hb : dtOk 10 b = true) (q : Q (.bool (PyData.eqv (toPy a) (toPy b))) st) : Op2 C n (compareOp .Eq) a b st Q := by
  intro A g ads s va vb hA base z x y
  obtain ⟨as, ra⟩ := (x.lies z.gh 10 ha).reads
  obtain ⟨bs, rb⟩ := (y.lies z.gh 10 hb).reads
  have o1 := toPy_ok 10 a ha
  have o2 := toPy_ok 10 b hb
  refine eq_dataH ra rb ?_ ?_ (by have := hA.un; omega) (Res.here0 z (.bool _) q)
  · unfold SeqAt.shaped; rw [o1.1, Bool.true_and]; exact decide_eq_true (Nat.le_trans o1.2 (by decide))
  · unfold SeqAt.shaped; rw [o2.1, Bool.true_and]; exact decide_eq_true (Nat.le_trans o2.2 (by decide))
theorem Op2.neD {a b : PV} (ha : dtOk 10 a = true) (hb : dtOk 10 b = true) (q : Q (.bool (!PyData.eqv (toPy a) (toPy b))) st) : Op2 C n (compareOp .NotEq) a b st Q := by
  intro A g ads s va vb hA base z x y
  obtain ⟨as, ra⟩ := (x.lies z.gh 10 ha).reads
  obtain ⟨bs, rb⟩ := (y.lies z.gh 10 hb).reads
  have o1 := toPy_ok 10 a ha
  have o2 := toPy_ok 10 b hb
  refine ne_dataH ra rb ?_ ?_ (by have := hA.un; omega) (Res.here0 z (.bool _) q)
  · unfold SeqAt.shaped; rw [o1.1, Bool.true_and]; exact decide_eq_true (Nat.le_trans o1.2 (by decide))
  · unfold SeqAt.shaped; rw [o2.1, Bool.true_and]; exact decide_eq_true (Nat.le_trans o2.2 (by decide))

theorem list_reads {P : PW} {g : Fz} {ads : List Addr} {h : Heap} (z : Sim P g ads st h) {v : Value} {i : Nat} {l : List PV} (x : VR g ads v (.loc i)) (e : st[i]? = some (.list l)) (hl : ∀ p ∈ l, dtOk 10 p = true) :
    ∃ as, Reads h v (.list (toPys l)) as ∧ SeqAt.shaped (.list (toPys l)) = true := by
  obtain ⟨a, rfl, ha, o⟩ := z.ref x e
  cases o with
  | list e r =>
    obtain ⟨as, q⟩ := (r.lies z.gh 10 hl).reads
    refine ⟨a :: as, .list e rfl rfl (by simpa using q), ?_⟩
    have o := toPy_ok 11 (.tup l) (by simpa [dtOk] using hl)
    simp only [toPy, PyData.canLay0, PyData.depth] at o
    unfold SeqAt.shaped
    simp only [PyData.canLay0, PyData.depth, o.1, Bool.true_and]
    exact decide_eq_true (Nat.le_trans o.2 (by decide))
theorem Op2.eqL {i j : Nat} {l m : List PV} (hi : st[i]? = some (.list l)) (hj : st[j]? = some (.list m)) (ha : ∀ p ∈ l, dtOk 10 p = true) (hb : ∀ p ∈ m, dtOk 10 p = true) (q : Q (.bool (PyData.eqvAll (toPys l) (toPys m))) st) : Op2 C n (compareOp .Eq) (.loc i) (.loc j) st Q := by
  intro A g ads s va vb hA base z x y
  obtain ⟨as, ra, sa⟩ := list_reads z x hi ha
  obtain ⟨bs, rb, sb⟩ := list_reads z y hj hb
  exact eq_dataH ra rb sa sb (by have := hA.un; omega) (by simp only [PyData.eqv]; exact Res.here0 z (.bool _) q)
theorem Op2.neL {i j : Nat} {l m : List PV} (hi : st[i]? = some (.list l)) (hj : st[j]? = some (.list m)) (ha : ∀ p ∈ l, dtOk 10 p = true) (hb : ∀ p ∈ m, dtOk 10 p = true) (q : Q (.bool (!PyData.eqvAll (toPys l) (toPys m))) st) : Op2 C n (compareOp .NotEq) (.loc i) (.loc j) st Q := by
  intro A g ads s va vb hA base z x y
  obtain ⟨as, ra, sa⟩ := list_reads z x hi ha
  obtain ⟨bs, rb, sb⟩ := list_reads z y hj hb
  exact ne_dataH ra rb sa sb (by have := hA.un; omega) (by simp only [PyData.eqv]; exact Res.here0 z (.bool _) q)
theorem Op2.inT {a : PV} {l : List PV} (ha : dtOk 10 a = true) (hl : ∀ p ∈ l, dtOk 10 p = true) (q : Q (.bool ((toPys l).any fun y => PyData.eqv y (toPy a))) st) : Op2 C n (compareOp .In) a (.tup l) st Q := by
  intro A g ads s va vb hA base z x y
  obtain ⟨as, ra⟩ := (x.lies z.gh 10 ha).reads
  obtain ⟨bs, rb⟩ := (y.lies z.gh 11 (p := .tup l) (by simpa [dtOk] using hl)).reads
  have o1 := toPy_ok 10 a ha
  have o2 := toPy_ok 11 (.tup l) (by simpa [dtOk] using hl)
  simp only [toPy, PyData.canLay0] at o2
  refine SeqAt.in_tuple_reads (by simpa [toPy] using rb) ra o2.1 o1.1 ?_ (Res.here0 z (.bool _) q)
  have := Nat.min_le_right (PyData.depthAll (toPys l)) (toPy a).depth
  have := o1.2
  have := hA.un
  omega

/-! ## items -/
noncomputable def ItemOp (C : Ctx0) (n : Nat) (o i : PV) (st : List PObj) (Q : Post) : Prop :=
  ∀ A g ads s vo vi, AOk A n → (∀ b o, C.h₀.get? b = some o → g b = some o) → Sim C.pw g ads st s.heap → VR g ads vo o → VR g ads vi i →
    (∃ T id, s.TypeIs vo T ∧ typeLookup (.type T) "__getitem__" = pure (some (.builtin id))) ∧ wpAny (model C.prog C.w) A (getItem vo vi) (Res C.pw [] g ads s Q) No s

theorem W.sub {value slice : Expr} {pos : Pos} (hs : ∀ o i, subscripted slice false o i = operate [o, i] (getItem o i)) (he : ∀ env, eval (.Subscript value slice pos) env = (do
      let o ← eval value env
      let i ← holding [o] (eval slice env)
      standAt pos
      subscriptTail value slice o i))
    (h : W C n sc value ρ st (fun o st₁ => W C n sc slice ρ st₁ (fun i st₂ => ItemOp C n o i st₂ Q))) : W C n sc (.Subscript value slice pos) ρ st Q := by
  intro A env g ads s z
  refine Subscript_ (then_ h z fun va s₁ g₁ ads₁ a st₁ z₁ x₁ e₁ vra q₁ => then_ q₁ z₁ fun vb s₂ g₂ ads₂ b st₂ z₂ x₂ e₂ vrb q₂ => ?_)
  obtain ⟨⟨T, id, hT, hl⟩, q₃⟩ := q₂ A g₂ ads₂ s₂ va vb z.a z₂.base z₂.sim (vra.mono x₂.gsub x₂.idx) vrb
  exact PyProof.Rows.tail_any hT hl (wpAny_mono q₃ (fun v s' r => (r.step x₂ e₂).step x₁ e₁) fun a b f => f) (hs _ _)

theorem VR.isTup {g : Fz} {ads : List Addr} {h : Heap} (hg : ∀ a o, g a = some o → h.get? a = some o) {a : Addr} {l : List PV} (x : VR g ads (.ref a) (.tup l)) : ∃ vs, IsTup h a vs.toArray ∧ VRs g ads vs l := by
  cases x with
  | tup e r => exact ⟨_, ⟨_, hg _ _ e, rfl, _, rfl⟩, r⟩
theorem VR.tupRef {g : Fz} {ads : List Addr} {v : Value} {l : List PV} (x : VR g ads v (.tup l)) : ∃ a, v = .ref a := by
  cases x with
  | tup e r => exact ⟨_, rfl⟩

theorem ItemOp.tup {l : List PV} {k : Nat} {p : PV} (hk : k < 1000000) (hp : l[k]? = some p) (q : Q p st) : ItemOp C n (.tup l) (.int (k : Int)) st Q := by
  intro A g ads s vo vi hA base z x y
  obtain ⟨a, rfl⟩ := x.tupRef
  cases y
  obtain ⟨vs, ht, vrs⟩ := x.isTup z.gh
  obtain ⟨v, hv, vr⟩ := vrs.get hp
  obtain ⟨lt, _⟩ := List.getElem?_eq_some_iff.mp hv
  refine ⟨⟨"tuple", _, ht.typeIs, slot_tuple_getitem.lookup⟩, PyProof.Rows.getItem_tuple (j := k) ht (by walk_at "om") (by walk_at "om") ?_ (by simpa using hv) (Res.here0 z vr q)⟩
  unfold seqIndex?
  rw [List.size_toArray]
  have h1 : ¬ ((k : Int) < 0) := by walk_at "om"
  have h2 : (0 : Int) ≤ (k : Int) ∧ (k : Int) < (vs.length : Int) := ⟨by walk_at "om", by walk_at "om"⟩
  simp [h1, h2]
  try omega
theorem ItemOp.list {i : Nat} {l : List PV} {k : Nat} {p : PV} (hi : st[i]? = some (.list l)) (hk : k < 1000000) (hp : l[k]? = some p) (q : Q p st) : ItemOp C n (.loc i) (.int (k : Int)) st Q := by
  intro A g ads s vo vi hA base z x y
  obtain ⟨a, rfl, ha, o⟩ := z.ref x hi
  cases y
  cases o with
  | list e r =>
    obtain ⟨v, hv, vr⟩ := r.get hp
    have hl : s.heap.IsList a _ := ⟨_, e, rfl, _, rfl⟩
    exact ⟨⟨"list", _, hl.typeIs, slot_list_getitem.lookup⟩, wpAny_getItem_list hl (by walk_at "om") (by walk_at "om") (by simpa using hv) (Res.here0 z vr q)⟩
theorem ItemOp.sd {i : Nat} {kvs : List (Str × PV)} {ep : Nat} {k : Str} {p : PV} (hi : st[i]? = some (.sd kvs ep)) (hp : kvs.lookup k = some p) (q : Q p st) : ItemOp C n (.loc i) (.str k) st Q := by
  intro A g ads s vo vi hA base z x y
  obtain ⟨a, rfl, ha, o⟩ := z.ref x hi
  cases y
  cases o with
  | sd e r =>
    obtain ⟨v, hv, vr⟩ := r.look.1 p hp
    exact ⟨⟨"dict", _, e.dictOf.typeIs, slot_dict_getitem.lookup⟩, wpAny_getItem_of (knd := PySem.strKind C.prog C.w) (isStrOf_self k _) e.dictOf.mapOf hv (Res.here z vr q)⟩

/-! ## len -/
theorem OpN.lenT {l : List PV} (hk : l.length < 1000000) (q : Q (.int (l.length : Int)) st) : OpN C n (fun vs => PySem.call (.builtin "len") vs) [.tup l] st Q := by
  intro A g ads s vs hA base z x
  cases x with
  | cons x r =>
    cases r
    obtain ⟨a, rfl⟩ := x.tupRef
    obtain ⟨vs, ht, vrs⟩ := x.isTup z.gh
    refine len_tuple ht (by rw [List.size_toArray, vrs.length]; omega) ?_
    rw [List.size_toArray, vrs.length]
    exact Res.here z (.int _ _) q
theorem OpN.lenL {i : Nat} {l : List PV} (hi : st[i]? = some (.list l)) (hk : l.length < 1000000) (q : Q (.int (l.length : Int)) st) : OpN C n (fun vs => PySem.call (.builtin "len") vs) [.loc i] st Q := by
  intro A g ads s vs hA base z x
  cases x with
  | cons x r =>
    cases r
    obtain ⟨a, rfl, ha, o⟩ := z.ref x hi
    cases o with
    | list e r =>
      have hl : s.heap.IsList a _ := ⟨_, e, rfl, _, rfl⟩
      refine Calls.call_len_list hl (by rw [List.size_toArray, r.length]; omega) ?_
      rw [List.size_toArray, r.length]
      exact Res.here z (.int _ _) q
end
section
variable {C : Ctx0} {n : Nat} {sc : Scope} {ρ : List (Str × PV)} {st : List PObj} {Q : Post}

theorem OpN.getSd {i : Nat} {kvs : List (Str × PV)} {ep : Nat} {k : Str} {d : PV} (hi : st[i]? = some (.sd kvs ep)) (q : Q ((kvs.lookup k).getD d) st) : OpN C n (fun vs => PySem.call (.builtin "dict.get") vs) [.loc i, .str k, d] st Q := by
  intro A g ads s vs hA base z x
  cases x with
  | cons x r => cases r with
    | cons y r => cases r with
      | cons w r =>
        cases r
        obtain ⟨a, rfl, ha, o⟩ := z.ref x hi
        cases y
        cases o with
        | sd e r =>
          refine call_meetsIn F.slot_dict_get e.dictOf.typeIs F.entry_dict_get (F.args_dict_get_3 _ _ _) (meets_dict_get_default (PySem.strKind C.prog C.w) a (isStrOf_self k _) (not_modules (z.hi a (List.mem_of_getElem? ha))) _) ⟨_, e.dictOf.mapOf, ?_⟩
          cases e' : kvs.lookup k with
          | some p =>
            obtain ⟨v, hv, vr⟩ := r.look.1 p e'
            rw [hv]
            rw [e'] at q
            exact Res.here z vr q
          | none =>
            rw [r.look.2 e']
            rw [e'] at q
            exact Res.here z w q

theorem Sim.seq {P : PW} {g : Fz} {ads : List Addr} {h : Heap} (z : Sim P g ads st h) {v : Value} {p : PV} {l : List PV} (vr : VR g ads v p) (e : p = .tup l ∨ ∃ i, p = .loc i ∧ st[i]? = some (.list l)) :
    ∃ a vs k T, v = .ref a ∧ VRs g ads vs l ∧ h.get? a = some ({ cls := .type T, data := .seq vs.toArray k } : Obj) ∧ ((T = "tuple" ∧ p = .tup l) ∨ (T = "list" ∧ ∃ i, p = .loc i ∧ ads[i]? = some a)) := by
  rcases e with rfl | ⟨i, rfl, hi⟩
  · cases vr with
    | tup e r => exact ⟨_, _, _, _, rfl, r, z.gh _ _ e, .inl ⟨rfl, rfl⟩⟩
  · obtain ⟨a, rfl, ha, o⟩ := z.ref vr hi
    cases o with
    | list e r => exact ⟨_, _, _, _, rfl, r, e, .inr ⟨rfl, i, rfl, ha⟩⟩

theorem listUpd {P : PW} {g : Fz} {ads : List Addr} {h : Heap} {i : Nat} {a : Addr} {vs ws : List Value} {k : Nat} {l : List PV} {f : Array Value → Array Value} (z : Sim P g ads st h) (ha : ads[i]? = some a) (e : h.get? a = some (listOf vs.toArray k)) (hf : f vs.toArray = ws.toArray) (vrs : VRs g ads ws l) :
    Nx [] g ads h g ads (h.update a (Obj.mapSeq f)) ∧ Sim P g ads (st.set i (.list l)) (h.update a (Obj.mapSeq f)) := by
  have u := PySem.IsL.update e f
  refine change z ha (Heap.SameBut.update ..) ?_
  rw [hf] at u
  exact .list u vrs

theorem OpN.extend {i : Nat} {l m : List PV} {p : PV} (hi : st[i]? = some (.list l)) (hp : p = .tup m ∨ ∃ j, p = .loc j ∧ st[j]? = some (.list m)) (hz : l.length + m.length ≤ 1000000) (q : Q .none (st.set i (.list (l ++ m)))) :
    OpN C n (fun vs => PySem.call (.builtin "list.extend") vs) [.loc i, p] st Q := by
  intro A g ads s vs hA base z x
  cases x with
  | cons x r => cases r with
    | cons y r =>
      cases r
      obtain ⟨a, rfl, ha, o⟩ := z.ref x hi
      obtain ⟨b, ws, k2, T, rfl, vrs2, eb, hT⟩ := z.seq y hp
      cases o with
      | @list vs k _ e r =>
        have e1 := r.length
        have e2 := vrs2.length
        have hl : ¬(!(vs.toArray).isEmpty && Builtin.List.listTooLong (vs.toArray.size + ws.toArray.size)) = true := by
          have : Builtin.List.listTooLong (vs.toArray.size + ws.toArray.size) = false := by
            rw [List.size_toArray, List.size_toArray]
            refine decide_eq_false ?_
            rw [sizeLine_is]
            omega
          rw [this]; simp
        obtain ⟨nx, sm⟩ := listUpd (f := fun x => x ++ ws.toArray) (ws := vs ++ ws) (l := l ++ m) z ha e (by simp) (r.append vrs2)
        have fin : Res C.pw [] g ads s Q .none { s with heap := s.heap.update a (Obj.mapSeq fun x => x ++ ws.toArray), toks := s.toks } := ⟨g, ads, .none, _, nx, sm, .none, q, rfl⟩
        rcases hT with ⟨rfl, _⟩ | ⟨rfl, _⟩
        · exact call_meets F.slot_list_extend ⟨_, e, rfl⟩ F.entry_list_extend (F.args_list_extend_2 _ _) (AutoSeq1.list_extend_list_tuple_0 a _ k b _ k2 hl (by rw [List.size_toArray, sizeLine_is]; omega) (by rw [List.size_toArray, List.size_toArray, sizeLine_is]; omega)) ⟨e, eb, fin⟩
        · exact call_meets F.slot_list_extend ⟨_, e, rfl⟩ F.entry_list_extend (F.args_list_extend_2 _ _) (AutoSeq1.list_extend_list_list_0 a _ k b _ k2 hl (by rw [List.size_toArray, sizeLine_is]; omega) (by rw [List.size_toArray, List.size_toArray, sizeLine_is]; omega)) ⟨e, eb, fin⟩

theorem VRs.inv {g : Fz} {ads : List Addr} {vs : List Value} {p : PV} {ps : List PV} (h : VRs g ads vs (p :: ps)) : ∃ v ws, vs = v :: ws ∧ VR g ads v p ∧ VRs g ads ws ps := by
  cases h with
  | cons a b => exact ⟨_, _, rfl, a, b⟩
theorem VRs.snoc {g : Fz} {ads : List Addr} {vs : List Value} {ps : List PV} {p : PV} (h : VRs g ads vs (ps ++ [p])) : ∃ ws v, vs = ws ++ [v] ∧ VRs g ads ws ps ∧ VR g ads v p := by
  induction ps generalizing vs with
  | nil =>
    obtain ⟨v, ws, rfl, a, b⟩ := h.inv
    cases b
    exact ⟨[], v, rfl, .nil, a⟩
  | cons q ps ih =>
    obtain ⟨v, ws, rfl, a, b⟩ := h.inv
    obtain ⟨ws', v', rfl, h1, h2⟩ := ih b
    exact ⟨v :: ws', v', rfl, .cons a h1, h2⟩
theorem OpN.pop {i : Nat} {l : List PV} {p : PV} (hi : st[i]? = some (.list (l ++ [p]))) (hz : l.length ≤ 1000000) (q : Q p (st.set i (.list l))) :
    OpN C n (fun vs => PySem.call (.builtin "list.pop") vs) [.loc i] st Q := by
  intro A g ads s vs hA base z x
  cases x with
  | cons x r =>
    cases r
    obtain ⟨a, rfl, ha, o⟩ := z.ref x hi
    cases o with
    | @list vs k _ e r =>
      obtain ⟨ws, v, rfl, h1, h2⟩ := r.snoc
      have e1 := h1.length
      have hk : (ws ++ [v]).toArray.size - 1 = ws.length := by rw [List.size_toArray, List.length_append]; rfl
      have hy : (ws ++ [v]).toArray[(ws ++ [v]).toArray.size - 1]? = some v := by rw [hk]; simp
      obtain ⟨nx, sm⟩ := listUpd (f := fun x => x.eraseIdxIfInBounds ((ws ++ [v]).toArray.size - 1)) (ws := ws) (l := l) z ha e (by
        show (ws ++ [v]).toArray.eraseIdxIfInBounds ((ws ++ [v]).toArray.size - 1) = ws.toArray
        rw [hk, kl_erase, List.append_nil]) h1
      exact call_meets F.slot_list_pop ⟨_, e, rfl⟩ F.entry_list_pop (F.args_list_pop_1 _) (PySem.MeetsSeq.list_pop_last a _ k v hy (by rw [List.size_toArray, List.length_append, sizeLine_is]; simp; omega)) ⟨e, g, ads, p, _, nx, sm, h2, q, rfl⟩

theorem Op2.addT {l m : List PV} (hz : l.length + m.length ≤ 1000000) (q : Q (.tup (l ++ m)) st) : Op2 C n (binaryOp .Add) (.tup l) (.tup m) st Q := by
  intro A g ads s va vb hA base z x y
  obtain ⟨a, vs, k, T, rfl, vrs, ea, hT⟩ := z.seq x (.inl rfl)
  obtain ⟨b, ws, k2, T2, rfl, vrs2, eb, hT2⟩ := z.seq y (.inl rfl)
  obtain ⟨rfl, _⟩ | ⟨_, _, h, _⟩ := hT
  rotate_left
  · cases h
  obtain ⟨rfl, _⟩ | ⟨_, _, h, _⟩ := hT2
  rotate_left
  · cases h
  have e1 := vrs.length
  have e2 := vrs2.length
  by_cases hv : vs = []
  · subst hv
    cases vrs
    rw [List.nil_append] at q
    exact concat_meets ⟨_, ea, rfl⟩ ⟨_, eb, rfl⟩ noFill_tuple_add seq_tuple_add F.slot_tuple_add F.entry_tuple_add (F.args_tuple_add_2 _ _) (tuple_addW0 a b _ _ k k2 none none #[] #[] (by simp)) ⟨ea, eb, Res.here0 z y q⟩
  · by_cases hw : ws = []
    · subst hw
      cases vrs2
      rw [List.append_nil] at q
      exact concat_meets ⟨_, ea, rfl⟩ ⟨_, eb, rfl⟩ noFill_tuple_add seq_tuple_add F.slot_tuple_add F.entry_tuple_add (F.args_tuple_add_2 _ _) (tuple_addW1 a b _ _ k k2 none none #[] #[] (by simpa using hv) (by simp)) ⟨ea, eb, Res.here0 z x q⟩
    · have f := froze z { cls := .type "tuple", data := .seq (vs ++ ws).toArray }
      refine concat_meets ⟨_, ea, rfl⟩ ⟨_, eb, rfl⟩ noFill_tuple_add seq_tuple_add F.slot_tuple_add F.entry_tuple_add (F.args_tuple_add_2 _ _) (tuple_addW2 a b _ _ k k2 none none #[] #[] (by simpa using hv) (by simpa using hw) (by rw [List.size_toArray, List.size_toArray, sizeLine_is]; omega)) ⟨ea, eb, ?_⟩
      have e : vs.toArray ++ ws.toArray = (vs ++ ws).toArray := by simp
      rw [e]
      refine ⟨_, ads, .tup (l ++ m), st, f.1, f.2, .tup (n := 0) ?_ ((vrs.append vrs2).mono f.1.gsub f.1.idx), q, rfl⟩
      show setF g s.heap.objs.size _ s.heap.objs.size = _
      unfold setF; rw [if_pos rfl]
theorem Op2.addL {i j : Nat} {l m : List PV} (hi : st[i]? = some (.list l)) (hj : st[j]? = some (.list m)) (hz : l.length + m.length ≤ 1000000) (q : Q (.loc st.length) (st ++ [.list (l ++ m)])) : Op2 C n (binaryOp .Add) (.loc i) (.loc j) st Q := by
  intro A g ads s va vb hA base z x y
  obtain ⟨a, rfl, ha, o⟩ := z.ref x hi
  obtain ⟨b, rfl, hb, o2⟩ := z.ref y hj
  cases o with
  | @list vs k _ ea vrs => cases o2 with
    | @list ws k2 _ eb vrs2 =>
      have e1 := vrs.length
      have e2 := vrs2.length
      have f := make_list z (lo_of base z) (vrs.append vrs2)
      refine concat_meets ⟨_, ea, rfl⟩ ⟨_, eb, rfl⟩ noFill_list_add seq_list_add F.slot_list_add F.entry_list_add (F.args_list_add_2 _ _) (list_addW a b vs.toArray ws.toArray k k2 none none #[] #[] (by rw [List.size_toArray, List.size_toArray, sizeLine_is]; omega)) ⟨ea, eb, ?_⟩
      have e : vs.toArray ++ ws.toArray = (vs ++ ws).toArray := by simp
      rw [e]
      exact ⟨_, _, _, _, f.1, f.2, loc_new z, q, rfl⟩
theorem Op2.mulL {i : Nat} {p : PV} (hi : st[i]? = some (.list [p])) (q : Q (.loc st.length) (st ++ [.list [p, p]])) : Op2 C n (binaryOp .Mult) (.loc i) (.int 2) st Q := by
  intro A g ads s va vb hA base z x y
  obtain ⟨a, rfl, ha, o⟩ := z.ref x hi
  cases y with
  | int _ u => cases o with
    | @list vs k _ e vrs =>
      cases vrs with
      | @cons v _ _ _ hv hr =>
        cases hr
        have f := make_list z (lo_of base z) (VRs.cons hv (VRs.cons hv VRs.nil))
        refine wpAny_binaryOp_repeat_ref (T := "list") (U := "int") (by decide) ⟨_, e, rfl⟩ (fun s' => typeIs_int s' 2 u) noFill_list_mul F.fills_int_mul F.slot_int_rmul repeat_list F.slot_int_index.lookup
          (call_meets F.slot_int_rmul (typeIs_int s 2 u) F.entry_int_rmul (F.args_int_rmul_2 _ _) (int___rmul___int_list 2 u a [v].toArray k)
            ⟨e, rfl, ⟨_, e, rfl⟩, call_meets F.slot_list_mul ⟨_, e, rfl⟩ F.entry_list_mul (F.args_list_mul_2 _ _)
              (AutoListH.list___mul___list_int_3 a [v].toArray k 2 u (by simp [Builtin.List.listFitsIndex]) (by show ¬ (1 * 2 > (2 ^ 63 - 1) / 8); decide) (by show ¬ (Builtin.List.listTooLong (1 * 2) = true); decide +kernel))
              ⟨e, ?_⟩⟩)
        exact ⟨_, _, _, _, f.1, f.2, loc_new z, q, rfl⟩

/-! ## dicts -/
theorem make_sd {P : PW} {g : Fz} {ads : List Addr} {h : Heap} (z : Sim P g ads st h) (hlo : mainGlobals < h.objs.size) :
    Nx [] g ads h g (ads ++ [h.objs.size]) (h.push { cls := .type "dict", data := .dict #[] }) ∧ Sim P g (ads ++ [h.objs.size]) (st ++ [.sd [] 0]) (h.push { cls := .type "dict", data := .dict #[] }) :=
  make z hlo { cls := .type "dict", data := .dict #[] } rfl fun h' e => .sd (kvs' := []) ⟨_, #[], e, ⟨rfl, rfl, rfl⟩, rfl, fun _ he => (by simp at he), .nil, List.nodup_nil⟩ .nil
theorem W.dictS {pos : Pos} (q : Q (.loc st.length) (st ++ [.sd [] 0])) : W C n sc (.Dict [] [] pos) ρ st Q := by
  intro A env g ads s z
  have f := make_sd z.sim z.lo
  exact wpAny_Dict_empty ⟨_, _, _, _, f.1, f.2, loc_new z.sim, q, rfl⟩
/-- storing under a key -/
noncomputable def SetOp (C : Ctx0) (n : Nat) (o i v : PV) (st : List PObj) (Q : List PObj → Prop) : Prop :=
  ∀ A g ads s vo vi vv, AOk A n → (∀ b o, C.h₀.get? b = some o → g b = some o) → Sim C.pw g ads st s.heap → VR g ads vo o → VR g ads vi i → VR g ads vv v →
    wpAny (model C.prog C.w) A (setItem vo vi vv) (fun _ s' => ResB C.pw g ads s (fun _ => Q) true s') No s
theorem SetOp.sd {i : Nat} {kvs : List (Str × PV)} {ep : Nat} {k : Str} {v : PV} {Q : List PObj → Prop} (hi : st[i]? = some (.sd kvs ep)) (hz : kvs.length ≤ 1000000) (q : ∀ ep', Q (st.set i (.sd (upd kvs k v) ep'))) : SetOp C n (.loc i) (.str k) v st Q := by
  intro A g ads s vo vi vv hA base z x y w
  obtain ⟨a, rfl, ha, o⟩ := z.ref x hi
  cases y
  cases o with
  | sd e r =>
    refine wpAny_setItem_pairs (knd := PySem.strKind C.prog C.w) (isStrOf_self k _) e.dictOf (fun h' e' hs => ?_) (by rw [r.length, sizeLine_is]; omega)
    have hn := e.nodup
    obtain ⟨ep', e'⟩ := e'.dictAt
    obtain ⟨nx, sm⟩ := change z ha hs (.sd e' (r.put w hn))
    exact ⟨g, ads, _, nx, sm, q ep', rfl⟩
theorem X1.setItem {o i e : Expr} {pos' pos : Pos} {Qn : PostN} {Qr : Post} (hs : ∀ env, swapsWith e (some (.Subscript o i pos')) pos.line env = pure false)
    (h : W C n sc e ρ st (fun v st₁ => W C n sc o ρ st₁ (fun ov st₂ => W C n sc i ρ st₂ (fun iv st₃ => SetOp C n ov iv v st₃ (fun st₄ => Qn ρ st₄))))) : X1 C n sc (.Assign [.Subscript o i pos'] e pos) ρ st Qn Qr := by
  intro A env g ads s z
  refine wpAny_Assign_Subscript (then_ h z fun v s₁ g₁ ads₁ p₁ st₁ z₁ x₁ e₁ vr₁ q₁ => then_ q₁ z₁ fun ov s₂ g₂ ads₂ p₂ st₂ z₂ x₂ e₂ vr₂ q₂ => then_ q₂ z₂ fun iv s₃ g₃ ads₃ p₃ st₃ z₃ x₃ e₃ vr₃ q₃ => ?_) (hs env)
  refine wpAny_mono (q₃ A g₃ ads₃ s₃ ov iv v z.a z₃.base z₃.sim (vr₂.mono x₃.gsub x₃.idx) vr₃ ((vr₁.mono x₂.gsub x₂.idx).mono x₃.gsub x₃.idx)) (fun _ s₄ r => ?_) fun a b f => f
  obtain ⟨g₄, ads₄, st₄, x₄, z₄, q₄, e₄⟩ := r
  have nx := ((x₁.trans x₂).trans x₃).trans x₄
  exact ⟨g₄, ads₄, ρ, st₄, nx.any, z₄, (z₃.fr.next x₄), q₄, by rw [e₄, e₃, e₂, e₁]⟩

/-! ## dicts by tuples -/
open Classical
theorem VRt.look {g : Fz} {ads : List Addr} {p : PV} : ∀ {es : List (PV × Addr × Value)} {kvs : List (PV × PV)}, VRt g ads es kvs → (∀ q, tget kvs p = some q → ∃ x, atKey es p = some x ∧ VR g ads x.2 q) ∧ (tget kvs p = none → atKey es p = none)
  | _, _, .nil => ⟨fun q h => (by cases h), fun e => rfl⟩
  | _, _, .cons (p := k) ha hk hv hr => by
    unfold tget atKey
    rw [List.find?_cons, List.find?_cons]
    by_cases e : k = p
    · subst e
      simp only [decide_true]
      exact ⟨fun q h => (by cases h; exact ⟨_, rfl, hv⟩), fun h => (by cases h)⟩
    · simp only [decide_eq_false e]
      have := hr.look (p := p)
      unfold tget atKey at this
      exact this
theorem VRt.keys {g : Fz} {ads : List Addr} : ∀ {es : List (PV × Addr × Value)} {kvs : List (PV × PV)}, VRt g ads es kvs → es.map (·.1) = kvs.map (·.1)
  | _, _, .nil => rfl
  | _, _, .cons _ _ _ hr => by rw [List.map_cons, List.map_cons, hr.keys]
theorem VRt.is {g : Fz} {ads : List Addr} {h : Heap} {prog : Program} {w : World} (hg : ∀ a o, g a = some o → h.get? a = some o) {es : List (PV × Addr × Value)} {kvs : List (PV × PV)} (r : VRt g ads es kvs) : ∀ x ∈ es, (tk prog w).is h x.1 x.2.1 := by
  induction r with
  | nil => intro x hx; cases hx
  | cons ha hk hv hr ih =>
    intro x hx
    rcases List.mem_cons.mp hx with e | hx
    · rw [e]; exact ⟨ha.lies hg 8 (dtOk_of_keyOk 8 _ hk), hk⟩
    · exact ih x hx
theorem VRt.append {g : Fz} {ads : List Addr} {es es' : List (PV × Addr × Value)} {kvs kvs' : List (PV × PV)} (x : VRt g ads es kvs) (h : VRt g ads es' kvs') : VRt g ads (es ++ es') (kvs ++ kvs') := by
  induction x with
  | nil => exact h
  | cons a b c _ ih => exact .cons a b c ih
theorem VRt.length {g : Fz} {ads : List Addr} {es : List (PV × Addr × Value)} {kvs : List (PV × PV)} (h : VRt g ads es kvs) : es.length = kvs.length := by
  have := congrArg List.length h.keys
  simpa using this

theorem Op2.notInTd {i : Nat} {kvs : List (PV × PV)} {l : List PV} (hi : st[i]? = some (.td kvs)) (hk : keyOk 8 (.tup l) = true) (q : Q (.bool (!(tget kvs (.tup l)).isSome)) st) : Op2 C n (compareOp .NotIn) (.tup l) (.loc i) st Q := by
  intro A g ads s va vb hA base z x y
  obtain ⟨a, rfl⟩ := x.tupRef
  obtain ⟨d, rfl, hd, o⟩ := z.ref y hi
  cases o with
  | @td o' es' ep' xs _ e1 e2 e3 e4 e5 r =>
    have hm : s.heap.DictOfH (tk C.prog C.w) d _ := ⟨_, _, _, e1, e2, e3, e4, r.is z.gh, e5⟩
    have key : (tk C.prog C.w).is s.heap (.tup l) a := ⟨x.lies z.gh 8 (dtOk_of_keyOk 8 _ hk), hk⟩
    have hroom : (tk C.prog C.w).room A.in1 := by show A.units + 1 + 20 < cLine; have := hA.un; omega
    show wpAny _ A (do return Value.bool (!(← contains (.ref d) (.ref a)))) _ No s
    have hin := wpAny_in_heap (A := A) (E := No) (knd := tk C.prog C.w) (Q := fun v s' => v = Value.bool (atKey xs (PV.tup l)).isSome ∧ s' = { s with toks := s.toks + (tk C.prog C.w).draws (.tup l) }) hroom key (not_modules (z.hi d (List.mem_of_getElem? hd))) hm ⟨rfl, rfl⟩
    have hin' : wpAny (model C.prog C.w) A (contains (.ref d) (.ref a)) (fun b s' => Value.bool b = Value.bool (atKey xs (PV.tup l)).isSome ∧ s' = { s with toks := s.toks + (tk C.prog C.w).draws (.tup l) }) No s := by
      intro Γ p hΓ
      have := hin Γ p hΓ
      have e : (compareOp .In (.ref a) (.ref d)) = (do return Value.bool (← contains (.ref d) (.ref a))) := rfl
      rw [e, Sem.wp_bind'] at this
      exact this
    refine wpAny_bind (wpAny_mono hin' (fun b s' hb => ?_) fun a b f => f)
    obtain ⟨hb, rfl⟩ := hb
    cases hb
    refine wpAny_pure ?_
    have : (atKey xs (PV.tup l)).isSome = (tget kvs (.tup l)).isSome := by
      cases e : tget kvs (.tup l) with
      | none => rw [r.look.2 e]; rfl
      | some q' =>
        obtain ⟨x', hx', _⟩ := r.look.1 q' e
        rw [hx']; rfl
    rw [this]
    exact Res.here z (.bool _) q
theorem ItemOp.td {i : Nat} {kvs : List (PV × PV)} {l : List PV} {p : PV} (hi : st[i]? = some (.td kvs)) (hk : keyOk 8 (.tup l) = true) (hp : tget kvs (.tup l) = some p) (q : Q p st) : ItemOp C n (.loc i) (.tup l) st Q := by
  intro A g ads s vo vi hA base z x y
  obtain ⟨d, rfl, hd, o⟩ := z.ref x hi
  obtain ⟨a, rfl⟩ := y.tupRef
  cases o with
  | td e1 e2 e3 e4 e5 r =>
    have hm : s.heap.DictOfH (tk C.prog C.w) d _ := ⟨_, _, _, e1, e2, e3, e4, r.is z.gh, e5⟩
    have key : (tk C.prog C.w).is s.heap (.tup l) a := ⟨y.lies z.gh 8 (dtOk_of_keyOk 8 _ hk), hk⟩
    have hroom : (tk C.prog C.w).room A.in1 := by show A.units + 1 + 20 < cLine; have := hA.un; omega
    obtain ⟨x', hx', vr⟩ := r.look.1 p hp
    exact ⟨⟨"dict", _, hm.typeIs, slot_dict_getitem.lookup⟩, wpAny_getItem_heap (knd := tk C.prog C.w) hroom key hm hx' (Res.here z vr q)⟩
theorem SetOp.td {i : Nat} {kvs : List (PV × PV)} {l : List PV} {v : PV} {Q : List PObj → Prop} (hi : st[i]? = some (.td kvs)) (hk : keyOk 8 (.tup l) = true) (hn : tget kvs (.tup l) = none) (hz : kvs.length ≤ 1000000) (q : Q (st.set i (.td (kvs ++ [(.tup l, v)])))) : SetOp C n (.loc i) (.tup l) v st Q := by
  intro A g ads s vo vi vv hA base z x y w
  obtain ⟨d, rfl, hd, o⟩ := z.ref x hi
  obtain ⟨a, rfl⟩ := y.tupRef
  cases o with
  | td e1 e2 e3 e4 e5 r =>
    have hm : s.heap.DictOfH (tk C.prog C.w) d _ := ⟨_, _, _, e1, e2, e3, e4, r.is z.gh, e5⟩
    have key : (tk C.prog C.w).is s.heap (.tup l) a := ⟨y.lies z.gh 8 (dtOk_of_keyOk 8 _ hk), hk⟩
    have hroom : (tk C.prog C.w).room A.in1 := by show A.units + 1 + 20 < cLine; have := hA.un; omega
    refine wpAny_setItem_heap (knd := tk C.prog C.w) hroom key hm (fun h' hm' hs => ?_) (by rw [r.length, sizeLine_is]; omega)
    rw [storedH_new (r.look.2 hn)] at hm'
    obtain ⟨o', es', ep', f1, f2, f3, f4, f5, f6⟩ := hm'
    obtain ⟨nx, sm⟩ := change z hd hs (.td f1 f2 f3 f4 f6 (r.append (.cons y hk w .nil)))
    exact ⟨g, ads, _, nx, sm, q, rfl⟩
end
/-- an iterator: one thing after the other -/
structure Wk (C : Ctx0) (A : Around) (target : Expr) (I : Addr) (own : List Addr) (ps : List PV) (G : List PObj → Prop) (St : Nat → Fz → List Addr → Heap → Prop) : Prop where
  frame : ∀ {i : Nat} {g : Fz} {ads : List Addr} {h : Heap} {g' : Fz} {ads' : List Addr} {h' : Heap} {own' : List Addr}, St i g ads h → Nx own' g ads h g' ads' h' → (∀ b ∈ own, b ∉ own') → St i g' ads' h'
  live : ∀ {i : Nat} {g : Fz} {ads : List Addr} {h : Heap}, St i g ads h → ∀ b ∈ own, b ∉ ads ∧ g b = none ∧ ∃ o, h.get? b = some o
  item : ∀ {i : Nat} {g : Fz} {ads : List Addr} {st : List PObj} {s : Shared} {p : PV}, St i g ads s.heap → (∀ b o, C.h₀.get? b = some o → g b = some o) → Sim C.pw g ads st s.heap → G st → ps[i]? = some p →
    wpAny (model C.prog C.w) A (pyNext (.ref I)) (fun r s₁ => ∃ v, r = some v ∧ wpAny (model C.prog C.w) A (letOwnedTupleGo target (.ref I) v) (fun _ s' => ∃ g', Nx own g ads s.heap g' ads s'.heap ∧ Sim C.pw g' ads st s'.heap ∧ VR g' ads v p ∧ St (i + 1) g' ads s'.heap ∧ s' = { s with heap := s'.heap, toks := s'.toks }) No s₁) No s
  done : ∀ {g : Fz} {ads : List Addr} {st : List PObj} {s : Shared}, St ps.length g ads s.heap → Sim C.pw g ads st s.heap → G st →
    wpAny (model C.prog C.w) A (pyNext (.ref I)) (fun r s' => r = none ∧ (∀ b o, b ∉ own → s.heap.get? b = some o → s'.heap.get? b = some o) ∧ s' = { s with heap := s'.heap, toks := s'.toks }) No s
  self : ∀ {i : Nat} {g : Fz} {ads : List Addr} {s : Shared} {Q : Value → Shared → Prop}, St i g ads s.heap → Q (.ref I) s → wpAny (model C.prog C.w) A (pyIter (.ref I)) Q No s

theorem Nx.off {own : List Addr} {g g' : Fz} {ads ads' : List Addr} {h h' : Heap} (x : Nx own g ads h g' ads' h') {b : Addr} {o : Obj} (n1 : b ∉ ads) (n2 : g b = none) (e : h.get? b = some o) : b ∉ ads' ∧ g' b = none :=
  ⟨fun hm => (by have := x.anew b hm n1; rw [e] at this; cases this), (by
    cases q : g' b with
    | none => rfl
    | some o' => have := x.gnew b n2 o' q; rw [e] at this; cases this)⟩
theorem Sim.ext {P : PW} {g : Fz} {ads : List Addr} {st : List PObj} {h h' : Heap} (z : Sim P g ads st h) (k : ∀ b o, (b ∈ ads ∨ g b ≠ none) → h.get? b = some o → h'.get? b = some o) : Sim P g ads st h' :=
  ⟨fun b o e => k b o (.inr (by rw [e]; simp)) (z.gh _ _ e), z.nd, z.ag, z.hi, z.len, fun n b po hb hp => (z.ob n b po hb hp).mono (fun a b e => e) (fun a b e => e) fun o e => k b o (.inl (List.mem_of_getElem? hb)) e⟩
theorem Nx.finish {own own' : List Addr} {g g₁ : Fz} {ads ads₁ : List Addr} {h h₁ h₂ : Heap} (x : Nx (own' ++ own) g ads h g₁ ads₁ h₁) (fresh : ∀ b ∈ own, h.get? b = none) (ext : ∀ b o, b ∉ own → h₁.get? b = some o → h₂.get? b = some o) : Nx own' g ads h g₁ ads₁ h₂ := by
  have off : ∀ b o, h.get? b = some o → b ∉ own := fun b o e hm => by rw [fresh b hm] at e; cases e
  refine ⟨x.gsub, x.asub, fun b o n1 n2 e => ext b o (off b o e) (x.keep b o n1 (fun hm => (List.mem_append.mp hm).elim n2 (off b o e)) e), x.gnew, x.anew, fun b e => ?_⟩
  obtain ⟨o, e⟩ := Option.isSome_iff_exists.mp e
  obtain ⟨o', e'⟩ := Option.isSome_iff_exists.mp (x.dom b (by rw [e]; rfl))
  rw [ext b o' (off b o e) e']; rfl

theorem sameBut_one {P : PW} {g : Fz} {ads : List Addr} {st : List PObj} {h h' : Heap} {a : Addr} (z : Sim P g ads st h) (ha : a ∉ ads) (hg : g a = none) (hs : Heap.ExtBut a h h') (hl : (h'.get? a).isSome = true) :
    Nx [a] g ads h g ads h' ∧ Sim P g ads st h' := by
  refine ⟨⟨fun a b e => e, ⟨[], by simp⟩, fun b o _ n e => hs b o (by simpa using n) e, fun a n o e => (by rw [n] at e; cases e), fun _ m n => absurd m n, fun b e => ?_⟩,
    ⟨fun b o e => ?_, z.nd, z.ag, z.hi, z.len, fun n b po hb hp => ?_⟩⟩
  · by_cases hba : b = a
    · rw [hba]; exact hl
    · obtain ⟨o, e⟩ := Option.isSome_iff_exists.mp e
      rw [hs b o hba e]; rfl
  · refine hs b o (fun hba => ?_) (z.gh _ _ e)
    rw [hba, hg] at e; cases e
  · refine (z.ob n b po hb hp).mono (fun a b e => e) (fun a b e => e) fun o e => hs b o (fun hba => ?_) e
    exact ha (hba ▸ List.mem_of_getElem? hb)

theorem letGo_listiter {prog : Program} {w : World} {A : Around} {E : Value → Shared → Prop} {target : Expr} {I t : Addr} {i : Nat} {v : Value} {Q' : Unit → Shared → Prop} {s' : Shared} (hit : s'.heap.IsListIter I t i) (h : Q' () s') :
    wpAny (model prog w) A (letOwnedTupleGo target (.ref I) v) Q' E s' := by
  obtain ⟨o, ho, hc, hd⟩ := hit
  unfold letOwnedTupleGo
  cases target <;> first
    | exact wpAny_pure h
    | (cases v <;> first
        | exact wpAny_pure h
        | (refine wpAny_bind (wpAny_load ho ?_)
           rw [hc, hd]
           exact wpAny_pure h))
theorem list_iter_there {h : Heap} {I l : Addr} {i : Nat} (x : h.IsListIter I l i) : ∃ o, h.get? I = some o := by obtain ⟨o, e, _⟩ := x; exact ⟨o, e⟩

/-- the state of a list's iterator -/
noncomputable def StL (i₀ : Nat) (I ax : Addr) (i : Nat) (g : Fz) (ads : List Addr) (h : Heap) : Prop := h.IsListIter I ax i ∧ ads[i₀]? = some ax ∧ I ∉ ads ∧ g I = none
theorem Wk.list {C : Ctx0} {A : Around} {target : Expr} {I ax : Addr} {i₀ : Nat} {ps : List PV} (hh : A.handled = none) :
    Wk C A target I [I] ps (fun st => st[i₀]? = some (.list ps)) (StL i₀ I ax) where
  frame := fun {i g ads h g' ads' h' own'} st x hn => by
    obtain ⟨⟨o, ho, hc, hd⟩, ha, n1, n2⟩ := st
    obtain ⟨m1, m2⟩ := x.off n1 n2 ho
    exact ⟨⟨o, x.keep _ _ n1 (hn I (.head _)) ho, hc, hd⟩, x.idx _ _ ha, m1, m2⟩
  live := fun {i g ads h} st b hb => by
    obtain ⟨⟨o, ho, hc, hd⟩, ha, n1, n2⟩ := st
    rw [List.mem_singleton.mp hb]; exact ⟨n1, n2, o, ho⟩
  item := fun {i g ads st s p} hst base z G hp => by
    obtain ⟨hit, ha, n1, n2⟩ := hst
    obtain ⟨o, ho⟩ := list_iter_there hit
    have or := z.ob i₀ ax _ ha G
    cases or with
    | list e r =>
      obtain ⟨v, hv, vr⟩ := r.get hp
      refine wpAny_pyNext_list_item hit ⟨_, e, rfl, _, rfl⟩ (x := v) (by simpa using hv) fun h' hit' hs => ⟨v, rfl, ?_⟩
      obtain ⟨o', ho'⟩ := list_iter_there hit'
      obtain ⟨nx, sm⟩ := sameBut_one z n1 n2 hs.extBut (by rw [ho']; rfl)
      exact letGo_listiter hit' ⟨g, nx, sm, vr, ⟨hit', ha, n1, n2⟩, rfl⟩
  done := fun {g ads st s} hst z G => by
    obtain ⟨hit, ha, n1, n2⟩ := hst
    have or := z.ob i₀ ax _ ha G
    obtain ⟨o, ho⟩ := list_iter_there hit
    cases or with
    | list e r =>
      exact wpAny_pyNext_list_end hh hit ⟨_, e, rfl, _, rfl⟩ (by simp [r.length]) fun h' he => ⟨rfl, fun b o hb e => he b o (by simpa using hb) e, rfl⟩
  self := fun {i g ads s Q} st q => wpAny_pyIter_listiter st.1 q

/-- the state of a tuple's iterator -/
noncomputable def StT (vs : List Value) (l : List PV) (I t : Addr) (i : Nat) (g : Fz) (ads : List Addr) (h : Heap) : Prop := h.IsTupleIter I t i ∧ (∃ n, g t = some { cls := .type "tuple", data := .seq vs.toArray n }) ∧ VRs g ads vs l ∧ I ∉ ads ∧ g I = none
theorem tuple_iter_there {h : Heap} {I l : Addr} {i : Nat} (x : h.IsTupleIter I l i) : ∃ o, h.get? I = some o := by obtain ⟨o, e, _⟩ := x; exact ⟨o, e⟩
theorem Wk.tup {C : Ctx0} {A : Around} {target : Expr} {I t : Addr} {vs : List Value} {ps : List PV} (hh : A.handled = none) :
    Wk C A target I [I] ps (fun _ => True) (StT vs ps I t) where
  frame := fun {i g ads h g' ads' h' own'} st x hn => by
    obtain ⟨⟨o, ho, hc, hd⟩, ⟨n, ha⟩, r, n1, n2⟩ := st
    obtain ⟨m1, m2⟩ := x.off n1 n2 ho
    exact ⟨⟨o, x.keep _ _ n1 (hn I (.head _)) ho, hc, hd⟩, ⟨n, x.gsub _ _ ha⟩, r.mono x.gsub x.idx, m1, m2⟩
  live := fun {i g ads h} st b hb => by
    obtain ⟨⟨o, ho, hc, hd⟩, ha, r, n1, n2⟩ := st
    rw [List.mem_singleton.mp hb]; exact ⟨n1, n2, o, ho⟩
  item := fun {i g ads st s p} hst base z G hp => by
    obtain ⟨hit, ⟨n, ha⟩, r, n1, n2⟩ := hst
    obtain ⟨o, ho⟩ := tuple_iter_there hit
    obtain ⟨v, hv, vr⟩ := r.get hp
    refine wpAny_pyNext_tuple_item hit ⟨_, z.gh _ _ ha, rfl, _, rfl⟩ (x := v) (by simpa using hv) fun h' hit' hs => ⟨v, rfl, ?_⟩
    obtain ⟨o', ho'⟩ := tuple_iter_there hit'
    obtain ⟨nx, sm⟩ := sameBut_one z n1 n2 hs.extBut (by rw [ho']; rfl)
    exact letGo_tupleiter hit' ⟨g, nx, sm, vr, ⟨hit', ⟨n, ha⟩, r, n1, n2⟩, rfl⟩
  done := fun {g ads st s} hst z G => by
    obtain ⟨hit, ⟨n, ha⟩, r, n1, n2⟩ := hst
    exact wpAny_pyNext_tuple_end hh hit ⟨_, z.gh _ _ ha, rfl, _, rfl⟩ (by simp [r.length]) fun h' he => ⟨rfl, fun b o hb e => he b o (by simpa using hb) e, rfl⟩
  self := fun {i g ads s Q} st q => by
    have hit := st.1
    refine wpAny_pyIter_slot hit.typeIs F.slot_tuple_iterator_iter (wpAny_call_entry F.slot_tuple_iterator_iter hit.typeIs F.entry_tuple_iterator_iter ?_ (F.args_tuple_iterator_iter_1 _))
    show wpAny _ _ (ret (.ref I)) _ _ s
    exact wpAny_pure ⟨_, rfl, "tuple_iterator", _, hit.typeIs, F.slot_tuple_iterator_next.lookup, q⟩
theorem mem_lookup {β : Type} : ∀ {l : List (Str × β)} {y : Str} {c : β}, (l.map (·.1)).Nodup → (y, c) ∈ l → l.lookup y = some c
  | [], _, _, _, h => by cases h
  | (z, d) :: r, y, c, hn, h => by
    rw [List.map_cons, List.nodup_cons] at hn
    rw [List.lookup_cons]
    rcases List.mem_cons.mp h with e | h
    · cases e; simp
    · have : (y == z) = false := by
        cases q : y == z with
        | false => rfl
        | true => exact absurd (List.mem_map.mpr ⟨_, h, (eq_of_beq q : y = z) ▸ rfl⟩) hn.1
      rw [this]; exact mem_lookup hn.2 h
theorem lookup_mem {β : Type} : ∀ {l : List (Str × β)} {y : Str} {c : β}, l.lookup y = some c → (y, c) ∈ l
  | [], _, _, h => by cases h
  | (z, d) :: r, y, c, h => by
    rw [List.lookup_cons] at h
    split at h
    · rename_i e; cases h; rw [eq_of_beq e]; exact .head _
    · exact .tail _ (lookup_mem h)

theorem FrOk.ownThere {env : Env} {ρ : List (Str × PV)} {g : Fz} {ads : List Addr} {h : Heap} (F : FrOk env ρ g ads h) : ∀ b ∈ ownOf env, ∃ o, h.get? b = some o := by
  intro b hb
  rcases List.mem_cons.mp hb with rfl | hb
  · obtain ⟨m, ⟨o, _, _, ho, _⟩, _⟩ := F.ns; exact ⟨o, ho⟩
  · obtain ⟨⟨y, c⟩, hm, rfl⟩ := List.mem_map.mp hb
    obtain ⟨_, _, _, v₀, o, ho, _⟩ := F.cells y c (mem_lookup F.cn hm)
    exact ⟨o, ho⟩
theorem FrOk.next' {env : Env} {ρ : List (Str × PV)} {g g' : Fz} {ads ads' own : List Addr} {h h' : Heap} (F : FrOk env ρ g ads h) (x : Nx own g ads h g' ads' h') (hd : ∀ b ∈ own, b ∉ ownOf env) : FrOk env ρ g' ads' h' := by
  obtain ⟨m, hn, hm⟩ := F.ns
  obtain ⟨oL, es, ep, hL, r⟩ := id hn
  have hLo : env.locals ∉ own := fun q => hd _ q (.head _)
  have hco : ∀ y c, env.cells.lookup y = some c → c ∉ own := fun y c hc q => hd _ q (.tail _ (List.mem_map.mpr ⟨_, lookup_mem hc, rfl⟩))
  have ck : ∀ c v₀, c ∉ ads → c ∉ own → h.IsCell c v₀ → h'.IsCell c v₀ := fun c v₀ n n' hc => by
    obtain ⟨o, ho, hd⟩ := hc
    exact ⟨o, x.keep c o n n' ho, hd⟩
  obtain ⟨l1, l2⟩ := x.off F.la F.lg hL
  refine ⟨F.kind, F.glob, F.bi, l1, l2, ⟨m, ⟨oL, es, ep, x.keep _ _ F.la hLo hL, r⟩, fun y p hy hk => ?_⟩, fun y c hc => ?_, F.cinj, fun y p hy hk => ?_, F.cd, F.cn⟩
  · obtain ⟨v, hv, hr⟩ := hm y p hy hk
    exact ⟨v, hv, hr.mono x.gsub x.idx⟩
  · obtain ⟨n1, n2, n3, v₀, hv⟩ := F.cells y c hc
    obtain ⟨o, ho, hd⟩ := id hv
    exact ⟨n1, fun hm => (by have := x.anew c hm n2; rw [ho] at this; cases this), fun hk => (x.off n2 (n3 hk) ho).2, v₀, ck _ _ n2 (hco y c hc) hv⟩
  · obtain ⟨c, v, hc, hv, hr⟩ := F.cv y p hy hk
    obtain ⟨_, n2, _, _⟩ := F.cells y c hc
    exact ⟨c, v, hc, ck _ _ n2 (hco y c hc) hv, hr.mono x.gsub x.idx⟩

inductive ResI (C : Ctx0) (A : Around) (target : Expr) (g : Fz) (ads : List Addr) (s : Shared) (Q : List PV → (List PObj → Prop) → List PObj → Prop) (it : Value) (s₂ : Shared) : Prop
  | mk (I : Addr) (own : List Addr) (St : Nat → Fz → List Addr → Heap → Prop) (ps : List PV) (G : List PObj → Prop) (g' : Fz) (ads' : List Addr) (st' : List PObj) (e1 : it = .ref I) (wk : Wk C A target I own ps G St) (nx : Nx [] g ads s.heap g' ads' s₂.heap) (sm : Sim C.pw g' ads' st' s₂.heap) (hst : St 0 g' ads' s₂.heap)
    (fresh : ∀ b ∈ own, s.heap.get? b = none) (q : Q ps G st') (e : s₂ = { s with heap := s₂.heap, toks := s₂.toks })
noncomputable def WI (C : Ctx0) (n : Nat) (sc : Scope) (target e : Expr) (ρ : List (Str × PV)) (st : List PObj) (Q : List PV → (List PObj → Prop) → List PObj → Prop) : Prop :=
  ∀ A env g ads s, At0 C n sc ρ st A env g ads s → wpAny (model C.prog C.w) A (eval e env) (fun x s₁ => wpAny (model C.prog C.w) A (pyIter x) (ResI C A target g ads s Q) No s₁) No s
/-- giving a value to a target -/
noncomputable def Asg (C : Ctx0) (n : Nat) (sc : Scope) (target : Expr) (p : PV) (ρ : List (Str × PV)) (st : List PObj) (Q : PostN) : Prop :=
  ∀ A env g ads s v, At0 C n sc ρ st A env g ads s → VR g ads v p → wpAny (model C.prog C.w) A (assign target env v) (fun _ s' => ResN C.pw env g ads s Q s') No s

theorem fresh_get {h : Heap} {b : Addr} (hb : h.objs.size ≤ b) : h.get? b = none := by
  cases q : h.get? b with
  | none => rfl
  | some o => exact absurd (Heap.lt_size q) (Nat.not_lt.mpr hb)
theorem Nx.none {own : List Addr} {g g' : Fz} {ads ads' : List Addr} {h h' : Heap} (x : Nx own g ads h g' ads' h') {a : Addr} (e : h'.get? a = none) : h.get? a = none := by
  cases q : h.get? a with
  | none => rfl
  | some o => have := x.dom a (by rw [q]; rfl); rw [e] at this; cases this
theorem Sim.gfresh {P : PW} {g : Fz} {ads : List Addr} {st : List PObj} {h : Heap} (z : Sim P g ads st h) {a : Addr} (e : h.get? a = none) : g a = none := by
  cases q : g a with
  | none => rfl
  | some o => have := z.gh _ _ q; rw [e] at this; cases this
/-- a new object that nobody may see -/
theorem hidden {P : PW} {g : Fz} {ads : List Addr} {st : List PObj} {h : Heap} (z : Sim P g ads st h) (o : Obj) (hf : o.isFreed = false := by rfl) :
    Nx [] g ads h g ads (h.push o) ∧ Sim P g ads st (h.push o) := by
  refine ⟨⟨fun a b e => e, ⟨[], by simp⟩, fun b o' _ _ e => Heap.get?_push_of_some _ e, fun a n o' e => (by rw [n] at e; cases e), fun a m n => absurd m n, fun b e => ?_⟩, z.ext fun b o _ e => Heap.get?_push_of_some _ e⟩
  obtain ⟨o', ho'⟩ := Option.isSome_iff_exists.mp e
  rw [Heap.get?_push_of_some _ ho']; rfl

section
variable {C : Ctx0} {n : Nat} {sc : Scope} {ρ : List (Str × PV)} {st : List PObj} {Qn : PostN} {Qr : Post}

theorem WI.list {target e : Expr} {Q : List PV → (List PObj → Prop) → List PObj → Prop} (h : W C n sc e ρ st (fun p st₁ => ∃ i l, p = .loc i ∧ st₁[i]? = some (.list l) ∧ Q l (fun st => st[i]? = some (.list l)) st₁)) : WI C n sc target e ρ st Q := by
  intro A env g ads s z
  refine then_ h z fun v s₁ g₁ ads₁ p st₁ z₁ x₁ e₁ vr q => ?_
  obtain ⟨i, l, rfl, hi, q⟩ := q
  obtain ⟨a, rfl, ha, o⟩ := z₁.sim.ref vr hi
  cases o with
  | list e r =>
    refine wpAny_pyIter_list ⟨_, e, rfl, _, rfl⟩ ?_
    obtain ⟨nx, sm⟩ := hidden z₁.sim { cls := .type "list_iterator", data := .fields #[.ref a, .int 0 0] }
    exact ⟨_, _, _, l, _, g₁, ads₁, st₁, rfl, Wk.list (I := s₁.heap.objs.size) (ax := a) (i₀ := i) z.a.hh, x₁.trans nx, sm, ⟨⟨_, Heap.get?_push_size _ rfl, rfl, rfl⟩, ha, z₁.sim.ads_fresh fresh_none, z₁.sim.gfresh fresh_none⟩,
      fun b hb => (by rw [List.mem_singleton.mp hb]; exact x₁.none fresh_none), q, by rw [e₁]⟩
theorem WI.tup {target e : Expr} {Q : List PV → (List PObj → Prop) → List PObj → Prop} (h : W C n sc e ρ st (fun p st₁ => ∃ l, p = .tup l ∧ Q l (fun _ => True) st₁)) : WI C n sc target e ρ st Q := by
  intro A env g ads s z
  refine then_ h z fun v s₁ g₁ ads₁ p st₁ z₁ x₁ e₁ vr q => ?_
  obtain ⟨l, rfl, q⟩ := q
  cases vr with
  | @tup a vs k _ ga r =>
    refine wpAny_pyIter_tuple ⟨_, z₁.sim.gh _ _ ga, rfl, _, rfl⟩ ?_
    obtain ⟨nx, sm⟩ := hidden z₁.sim { cls := .type "tuple_iterator", data := .fields #[.ref a, .int 0 0] }
    exact ⟨_, _, _, l, _, g₁, ads₁, st₁, rfl, Wk.tup (I := s₁.heap.objs.size) (t := a) (vs := vs) z.a.hh, x₁.trans nx, sm, ⟨⟨_, Heap.get?_push_size _ rfl, rfl, rfl⟩, ⟨k, ga⟩, r, z₁.sim.ads_fresh fresh_none, z₁.sim.gfresh fresh_none⟩,
      fun b hb => (by rw [List.mem_singleton.mp hb]; exact x₁.none fresh_none), q, by rw [e₁]⟩

theorem Asg.name {x : Str} {pos : Pos} {p : PV} (hk : sc.names.lookup x = some .local ∨ sc.names.lookup x = some .cell) (q : Qn (upd ρ x p) st) : Asg C n sc (.Name x pos) p ρ st Qn := by
  intro A env g ads s v z vr
  refine wpAny_assign_Name ?_
  exact store_ok z vr hk fun s' nx sm fr e' => ⟨g, ads, _, st, nx, sm, fr, q, e'⟩

noncomputable def Turns (C : Ctx0) (n : Nat) (sc : Scope) (target : Expr) (body : List Stmt) (G : List PObj → Prop) (Qn : PostN) (Qr : Post) : List PV → List (Str × PV) → List PObj → Prop
  | [], ρ, st => Qn ρ st
  | p :: ps, ρ, st => Asg C n sc target p ρ st (fun ρ' st' => X C n sc body ρ' st' (fun ρ'' st'' => G st'' ∧ Turns C n sc target body G Qn Qr ps ρ'' st'') Qr)

theorem At0.step {A : Around} {env : Env} {g g' : Fz} {ads ads' own : List Addr} {s s' : Shared} {st' : List PObj} (x : At0 C n sc ρ st A env g ads s) (y : Nx own g ads s.heap g' ads' s'.heap) (hd : ∀ b ∈ own, b ∉ ownOf env)
    (z : Sim C.pw g' ads' st' s'.heap) : At0 C n sc ρ st' A env g' ads' s' := ⟨x.a, x.sc, fun b o e => y.gsub _ _ (x.base _ _ e), x.fr.next' y hd, z⟩

/-- where a loop stands -/
inductive LoopAt (C : Ctx0) (n : Nat) (sc : Scope) (A : Around) (env : Env) (g : Fz) (ads : List Addr) (s : Shared) (own : List Addr) (len : Nat) (St : Nat → Fz → List Addr → Heap → Prop) (K : Nat → List (Str × PV) → List PObj → Prop) (k : Nat) (s' : Shared) : Prop
  | mk (g' : Fz) (ads' : List Addr) (ρ' : List (Str × PV)) (st' : List PObj) (i : Nat) (hk : k = len + 1 - i) (hi : i ≤ len) (nx : Nx own g ads s.heap g' ads' s'.heap) (z : At0 C n sc ρ' st' A env g' ads' s') (hst : St i g' ads' s'.heap) (q : K i ρ' st') (e : s' = { s with heap := s'.heap, toks := s'.toks })
theorem X1.for_ {target e : Expr} {body : List Stmt} {pos : Pos} (hs : ∀ env x, foldedSetIterable e env x = pure x)
    (h : WI C n sc target e ρ st (fun ps G st' => G st' ∧ Turns C n sc target body G Qn Qr ps ρ st')) : X1 C n sc (.For target e body [] pos) ρ st Qn Qr := by
  intro A env g ads s z
  refine wpAny_For (wpAny_mono (h A env g ads s z) (fun x s₁ h₁ => wpAny_mono h₁ (fun it s₂ h₂ => ?_) fun a b f => f.elim) fun a b f => f.elim) (hs env)
  obtain ⟨I, own, St, ps, G, g₂, ads₂, st₂, rfl, wk, nx₂, sm₂, hst₂, fresh, ⟨hG, q⟩, e₂⟩ := h₂
  have apart : ∀ b ∈ own, b ∉ ownOf env := fun b hb hm => by
    obtain ⟨o, ho⟩ := z.fr.ownThere b hm
    rw [fresh b hb] at ho; cases ho
  have toOwn : ∀ {g g' : Fz} {ads ads' : List Addr} {h h' : Heap} {o}, Nx o g ads h g' ads' h' → (∀ b ∈ o, b ∈ ownOf env ∨ b ∈ own) → Nx (ownOf env ++ own) g ads h g' ads' h' := fun x k => x.weaken fun a ha => .inl (List.mem_append.mpr (k a ha))
  have away : ∀ b ∈ ownOf env ++ own, b ∈ ownOf env ∨ s.heap.get? b = none := fun b hb => (List.mem_append.mp hb).imp id (fresh b)
  refine codeAny_forLoop_any (LoopAt C n sc A env g ads s (ownOf env ++ own) ps.length St (fun i ρ' st' => G st' ∧ Turns C n sc target body G Qn Qr (ps.drop i) ρ' st'))
    ?_ (ps.length + 1) ⟨g₂, ads₂, ρ, st₂, 0, rfl, Nat.zero_le _, toOwn nx₂ (fun _ h => by simp at h), z.step nx₂ (fun _ h => by simp at h) sm₂, hst₂, ⟨hG, q⟩, e₂⟩
  rintro k s' ⟨g', ads', ρ', st', i, hk, hi, nx, z', hst, ⟨hG', q'⟩, e'⟩
  by_cases hlt : i < ps.length
  · rw [List.drop_eq_getElem_cons hlt] at q'
    refine wpAny_mono (wk.item (p := ps[i]) hst z'.base z'.sim hG' (List.getElem?_eq_getElem hlt)) (fun r s₁ hr => ?_) fun a b f => f.elim
    obtain ⟨v, rfl, hr⟩ := hr
    refine wpAny_mono hr (fun _ s₃ h₃ => ?_) fun a b f => f.elim
    obtain ⟨g₃, nx₃, sm₃, vr, hst₃, e₃⟩ := h₃
    have z₃ := z'.step nx₃ apart sm₃
    refine wpAny_mono (q' A env g₃ ads' s₃ v z₃ vr) (fun _ s₄ h₄ => ?_) fun a b f => f.elim
    obtain ⟨g₄, ads₄, ρ₄, st₄, nx₄, sm₄, fr₄, q₄, e₄⟩ := h₄
    have z₄ : At0 C n sc ρ₄ st₄ A env g₄ ads₄ s₄ := ⟨z'.a, z'.sc, fun b o e => nx₄.gsub _ _ (z₃.base _ _ e), fr₄, sm₄⟩
    have hst₄ := wk.frame hst₃ nx₄ apart
    refine wpAny_mono (q₄ A env g₄ ads₄ s₄ z₄) (fun fl s₅ h₅ => ?_) fun a b f => f.elim
    have nx34 := (nx.trans (toOwn nx₃ fun _ h => .inr h)).trans (toOwn nx₄ fun _ h => .inl h)
    have e45 : s₄ = { s with heap := s₄.heap, toks := s₄.toks } := by rw [e₄, e₃, e']
    cases fl with
    | next =>
      obtain ⟨g₅, ads₅, ρ₅, st₅, nx₅, sm₅, fr₅, ⟨hG₅, q₅⟩, e₅⟩ := h₅
      exact ⟨ps.length + 1 - (i + 1), by walk_at "om", g₅, ads₅, ρ₅, st₅, i + 1, rfl, hlt, nx34.trans (toOwn nx₅ fun _ h => .inl h),
        ⟨z'.a, z'.sc, fun b o e => nx₅.gsub _ _ (z₄.base _ _ e), fr₅, sm₅⟩, wk.frame hst₄ nx₅ apart, ⟨hG₅, q₅⟩, by rw [e₅, e45]⟩
    | ret v => exact (Res.step (nx34.weaken away) e45 h₅)
    | brk => exact h₅.elim
    | cont => exact h₅.elim
  · have hi' : i = ps.length := by walk_at "om"
    subst hi'
    rw [List.drop_length] at q'
    refine wpAny_mono (wk.done hst z'.sim hG') (fun r s₁ hr => ?_) fun a b f => f.elim
    obtain ⟨rfl, ext, e₁⟩ := hr
    refine wpAny_execs_nil ?_
    have off : ∀ b o, b ∉ own → s'.heap.get? b = some o → s₁.heap.get? b = some o := ext
    have lv := wk.live hst
    have sm₁ : Sim C.pw g' ads' st' s₁.heap := z'.sim.ext fun b o hb e => ext b o (fun hm => by
      obtain ⟨m1, m2, _⟩ := lv b hm
      rcases hb with hb | hb
      · exact m1 hb
      · exact hb m2) e
    have F := z'.fr
    obtain ⟨m, hn, hm⟩ := F.ns
    obtain ⟨oL, es, ep, hL, r⟩ := id hn
    have hLo : env.locals ∉ own := fun q => apart _ q (.head _)
    have hco : ∀ y c, env.cells.lookup y = some c → c ∉ own := fun y c hc q => apart _ q (.tail _ (List.mem_map.mpr ⟨_, lookup_mem hc, rfl⟩))
    have ck : ∀ c v₀, c ∉ own → s'.heap.IsCell c v₀ → s₁.heap.IsCell c v₀ := fun c v₀ n' hc => by
      obtain ⟨o, ho, hd⟩ := hc
      exact ⟨o, ext c o n' ho, hd⟩
    refine ⟨g', ads', ρ', st', nx.finish fresh ext, sm₁, ⟨F.kind, F.glob, F.bi, F.la, F.lg, ⟨m, ⟨oL, es, ep, ext _ _ hLo hL, r⟩, hm⟩, fun y c hc => ?_, F.cinj, fun y p hy hk => ?_, F.cd, F.cn⟩, q', by rw [e₁, e']⟩
    · obtain ⟨n1, n2, n3, v₀, hv⟩ := F.cells y c hc
      exact ⟨n1, n2, n3, v₀, ck _ _ (hco y c hc) hv⟩
    · obtain ⟨c, v, hc, hv, hr⟩ := F.cv y p hy hk
      exact ⟨c, v, hc, ck _ _ (hco y c hc) hv, hr⟩
end
theorem store_okL {C : Ctx0} {n : Nat} {sc : Scope} {ρ : List (Str × PV)} {st : List PObj} {A : Around} {env : Env} {g : Fz} {ads : List Addr} {s : Shared} {x : Str} {v : Value} {p : PV} {R : Unit → Shared → Prop} (z : At0 C n sc ρ st A env g ads s) (vr : VR g ads v p) (hk : sc.names.lookup x = some .local)
    (k : ∀ s', Nx [env.locals] g ads s.heap g ads s'.heap → Sim C.pw g ads st s'.heap → FrOk env (upd ρ x p) g ads s'.heap → s' = { s with heap := s'.heap, toks := s'.toks } → R () s') :
    wpAny (model C.prog C.w) A (storeName env x v) R No s := by
  obtain ⟨m, hn, hm⟩ := z.fr.ns
  have hk' : env.kindOf x = some .local := (z.fr.kindOf z.sc x).trans hk
  refine wpAny_storeName_local hk' hn (fun h' hn' hs => ?_) (by rw [z.fr.kind]; rfl)
  have hl : (h'.get? env.locals).isSome = true := by obtain ⟨o, _, _, ho, _⟩ := hn'; rw [ho]; rfl
  obtain ⟨nx, sm⟩ := sameBut_nx z.sim z.fr.la z.fr.lg hs hl
  have ck : ∀ c v₀, c ≠ env.locals → s.heap.IsCell c v₀ → h'.IsCell c v₀ := fun c v₀ hc hv => hv.sameBut hs hc
  refine k _ nx sm ⟨z.fr.kind, z.fr.glob, z.fr.bi, z.fr.la, z.fr.lg, ⟨_, hn', fun y q hy hky => ?_⟩, fun y c hc => ?_, z.fr.cinj, fun y q hy hky => ?_, z.fr.cd, z.fr.cn⟩ rfl
  · by_cases e : y = x
    · subst e
      rw [upd_self] at hy; cases hy
      exact ⟨v, by simp, vr⟩
    · rw [upd_ne _ _ _ _ e] at hy
      obtain ⟨v', hv', r⟩ := hm y q hy hky
      exact ⟨v', by rw [if_neg e]; exact hv', r⟩
  · obtain ⟨n1, n2, n3, v₀, hv⟩ := z.fr.cells y c hc
    exact ⟨n1, n2, n3, v₀, ck _ _ n1 hv⟩
  · have e : y ≠ x := fun e => by subst e; rw [hk'] at hky; rcases hky with h | h <;> cases h
    rw [upd_ne _ _ _ _ e] at hy
    obtain ⟨c, v', hc, hv, r⟩ := z.fr.cv y q hy hky
    exact ⟨c, v', hc, ck _ _ (z.fr.cells y c hc).1 hv, r⟩

/-- giving a value to a target of the frame's own -/
noncomputable def AsgL (C : Ctx0) (n : Nat) (sc : Scope) (target : Expr) (p : PV) (ρ : List (Str × PV)) (st : List PObj) (Q : PostN) : Prop :=
  ∀ A env g ads s v, At0 C n sc ρ st A env g ads s → VR g ads v p → wpAny (model C.prog C.w) A (assign target env v) (fun _ s' => ResW C.pw [env.locals] env g ads s Q s') No s

noncomputable def Tst (C : Ctx0) (n : Nat) (sc : Scope) (ifs : List Expr) (ρ : List (Str × PV)) (st : List PObj) (Q : PostB) : Prop := match ifs with
  | [] => Q true st
  | [c] => T C n sc c ρ st Q
  | _ => False

noncomputable def CT (C : Ctx0) (n : Nat) (sc : Scope) (target elt : Expr) (ifs : List Expr) (G : List PObj → Prop) (Q : List PV → List PObj → Prop) : List PV → List (Str × PV) → List PV → List PObj → Prop
  | [], ρ, acc, st => Q acc st
  | p :: ps, ρ, acc, st => AsgL C n sc target p ρ st (fun ρ' st' => Tst C n sc ifs ρ' st' (fun b st₂ =>
      (b = true → W C n sc elt ρ' st₂ (fun v st₃ => G st₃ ∧ CT C n sc target elt ifs G Q ps ρ' (acc ++ [v]) st₃)) ∧ (b = false → G st₂ ∧ CT C n sc target elt ifs G Q ps ρ' acc st₂)))

section
variable {C : Ctx0} {n : Nat} {sc : Scope} {ρ : List (Str × PV)} {st : List PObj} {Qn : PostN} {Qr : Post}

theorem AsgL.name {x : Str} {pos : Pos} {p : PV} (hk : sc.names.lookup x = some .local) (q : Qn (upd ρ x p) st) : AsgL C n sc (.Name x pos) p ρ st Qn := by
  intro A env g ads s v z vr
  refine wpAny_assign_Name ?_
  exact store_okL z vr hk fun s' nx sm fr e' => ⟨g, ads, _, st, nx, sm, fr, q, e'⟩
theorem Tst.run {ifs : List Expr} {Q₁ : PostB} {A : Around} {env : Env} {g : Fz} {ads : List Addr} {s : Shared} {R : Bool → Shared → Prop} {E : Value → Shared → Prop} (h : Tst C n sc ifs ρ st Q₁)
    (x : At0 C n sc ρ st A env g ads s)
    (k : ∀ b s₁ g₁ ads₁ st₁, At0 C n sc ρ st₁ A env g₁ ads₁ s₁ → Nx [] g ads s.heap g₁ ads₁ s₁.heap → s₁ = { s with heap := s₁.heap, toks := s₁.toks } → Q₁ b st₁ → R b s₁) :
    wpAny (model C.prog C.w) A (forIn ifs true fun c r => if r = true then do let ok ← isTrue c env (eval c env); pure (ForInStep.yield ok) else pure (ForInStep.yield r)) R E s := by
  unfold Tst at h
  split at h
  · exact wpAny_tests_nil (k true s g ads st x (Nx.refl _ _ _ _) rfl h)
  · exact wpAny_tests_one (wpAny_mono (T.run h x k) (fun a b y => y) fun a b f => f.elim)
  · exact h.elim

theorem codeAny_compLoop_own {prog : Program} {w : World} {A : Around} {s : Shared} {R : Result → Shared → Prop} {elt target : Expr} {gens : List Comprehension} {scope : Scope} {pos : Pos} {d : Nat} {ifs : List Expr} {p0 : Pos} {it acc : Value} {env : Env}
    (hturn : compTurn (.ListComp elt gens scope pos) d it acc env = (do
      standAt p0
      match ← pyNext it with
      | none => pure (.done .next)
      | some v =>
        letOwnedTupleGo target it v
        assign target env v
        let mut ok := true
        for c in ifs do
          if ok then ok ← isTrue c env (eval c env)
        if ok then
          (do let _ ← call (.builtin "list.append") [acc, ← eval elt env])
        again (.compLoop (.ListComp elt gens scope pos) d it acc env))) (I : Nat → Shared → Prop)
    (turn : ∀ n s, I n s → wpAny (model prog w) A (pyNext it) (fun r s₁ => match r with
      | none => R (.ok .next) s₁
      | some v => wpAny (model prog w) A (letOwnedTupleGo target it v) (fun _ s₁' => wpAny (model prog w) A (assign target env v) (fun _ s₂ =>
          wpAny (model prog w) A (forIn ifs true fun c r => if r = true then do let ok ← isTrue c env (eval c env); pure (ForInStep.yield ok) else pure (ForInStep.yield r)) (fun ok s₃ =>
            if ok = true then wpAny (model prog w) A (eval elt env) (fun x s₄ =>
              wpAny (model prog w) A (call (.builtin "list.append") [acc, x]) (fun _ s₅ => ∃ m, m < n ∧ I m s₅) No s₄) No s₃
            else ∃ m, m < n ∧ I m s₃) No s₂) No s₁') No s₁) No s)
    (n : Nat) (h : I n s) :
    codeAny (model prog w) A (.compLoop (.ListComp elt gens scope pos) d it acc env) R s := by
  refine codeAny_loop rfl I (fun n s hI => ?_) n h
  show wpAny _ A ((compTurn (.ListComp elt gens scope pos) d it acc env).onRaise (fun x => do noteFrame x env; theTreesLotGoes x)) _ _ s
  refine wpAny_noted ?_
  rw [hturn]
  refine wpAny_bind (wpAny_standAt (wpAny_bind (wpAny_mono (turn n s hI) (fun r s₁ h₁ => ?_) fun a b f => f.elim)))
  cases r with
  | none => exact wpAny_pure h₁
  | some v =>
    refine wpAny_bind (wpAny_mono h₁ (fun _ s₁' h₁' => ?_) fun a b f => f.elim)
    refine wpAny_bind (wpAny_mono h₁' (fun _ s₂ h₂ => wpAny_bind (wpAny_mono h₂ (fun ok s₃ h₃ => ?_) fun a b f => f.elim)) fun a b f => f.elim)
    cases ok with
    | false => exact wpAny_pure ⟨rfl, h₃⟩
    | true =>
      exact wpAny_bind (wpAny_bind (wpAny_mono h₃ (fun x s₄ h₄ => wpAny_bind (wpAny_mono h₄ (fun _ s₅ h₅ => wpAny_pure (wpAny_pure ⟨rfl, h₅⟩)) fun a b f => f.elim)) fun a b f => f.elim))
end
section
variable {C : Ctx0} {n : Nat} {sc : Scope} {ρ : List (Str × PV)} {st : List PObj} {Qn : PostN} {Qr : Post}

theorem plain_keep {own : List Addr} {g g' : Fz} {ads ads' : List Addr} {h h' : Heap} (x : Nx own g ads h g' ads' h') {D : Addr} {arr : Array Value} (hD : h.PlainList D arr) (n1 : D ∉ ads) (n2 : g D = none) (n3 : D ∉ own) :
    h'.PlainList D arr ∧ D ∉ ads' ∧ g' D = none := by
  obtain ⟨k, e⟩ := id hD
  obtain ⟨m1, m2⟩ := x.off n1 n2 e
  exact ⟨hD.at fun o e => x.keep _ _ n1 n3 e, m1, m2⟩

/-- where a comprehension stands -/
inductive CompAt (C : Ctx0) (n : Nat) (sc : Scope) (A : Around) (env : Env) (g : Fz) (ads : List Addr) (s : Shared) (own : List Addr) (D : Addr) (len : Nat) (St : Nat → Fz → List Addr → Heap → Prop) (K : Nat → List (Str × PV) → List PV → List PObj → Prop) (k : Nat) (s' : Shared) : Prop
  | mk (g' : Fz) (ads' : List Addr) (ρ' : List (Str × PV)) (st' : List PObj) (i : Nat) (vs' : List Value) (acc' : List PV) (hk : k = len + 1 - i) (hi : i ≤ len) (nx : Nx (env.locals :: D :: own) g ads s.heap g' ads' s'.heap) (z : At0 C n sc ρ' st' A env g' ads' s') (hst : St i g' ads' s'.heap)
    (hD : s'.heap.PlainList D vs'.toArray) (nD : D ∉ ads') (gD : g' D = none) (vr : VRs g' ads' vs' acc') (q : K i ρ' acc' st') (e : s' = { s with heap := s'.heap, toks := s'.toks })
theorem comp_loop {A : Around} {cenv : Env} {g : Fz} {ads : List Addr} {s : Shared} {I D : Addr} {own : List Addr} {St : Nat → Fz → List Addr → Heap → Prop} {ps : List PV} {G : List PObj → Prop} {target elt : Expr} {ifs : List Expr}
    {gens : List Comprehension} {scope : Scope} {pos : Pos} {d : Nat} {p0 : Pos} {Q : List PV → List PObj → Prop} {R : Result → Shared → Prop} {vs : List Value} {acc : List PV}
    (hturn : compTurn (.ListComp elt gens scope pos) d (.ref I) (.ref D) cenv = (do
      standAt p0
      match ← pyNext (.ref I) with
      | none => pure (.done .next)
      | some v =>
        letOwnedTupleGo target (.ref I) v
        assign target cenv v
        let mut ok := true
        for c in ifs do
          if ok then ok ← isTrue c cenv (eval c cenv)
        if ok then
          (do let _ ← call (.builtin "list.append") [.ref D, ← eval elt cenv])
        again (.compLoop (.ListComp elt gens scope pos) d (.ref I) (.ref D) cenv)))
    (z : At0 C n sc ρ st A cenv g ads s) (wk : Wk C A target I own ps G St) (hst : St 0 g ads s.heap) (hG : G st) (hD : s.heap.PlainList D vs.toArray) (nD : D ∉ ads) (gD : g D = none)
    (dC : ∀ b ∈ D :: own, b ∉ ownOf cenv) (dO : D ∉ own) (vrs : VRs g ads vs acc) (hlen : acc.length + ps.length ≤ 1000000) (turns : CT C n sc target elt ifs G Q ps ρ acc st)
    (hR : ∀ s' g' ads' st' vs' acc' h₁ m', Nx (cenv.locals :: D :: own) g ads s.heap g' ads' h₁ → (∀ b o, b ∉ own → h₁.get? b = some o → s'.heap.get? b = some o) → Sim C.pw g' ads' st' s'.heap → s'.heap.PlainList D vs'.toArray → VRs g' ads' vs' acc' →
      D ∉ ads' → g' D = none → s'.heap.Ns cenv.locals m' → cenv.locals ∉ ads' → g' cenv.locals = none → Q acc' st' → s' = { s with heap := s'.heap, toks := s'.toks } → R (.ok .next) s') :
    codeAny (model C.prog C.w) A (.compLoop (.ListComp elt gens scope pos) d (.ref I) (.ref D) cenv) R s := by
  have dDL : D ≠ cenv.locals := fun e => dC D (.head _) (by rw [e]; exact .head _)
  have oL : cenv.locals ∉ own := fun h => dC _ (.tail _ h) (.head _)
  have up : ∀ {g g' : Fz} {ads ads' : List Addr} {h h' : Heap} {o}, Nx o g ads h g' ads' h' → (∀ b ∈ o, b = cenv.locals ∨ b = D ∨ b ∈ own) → Nx (cenv.locals :: D :: own) g ads h g' ads' h' := fun x k => x.weaken fun a ha => .inl (by
    rcases k a ha with h | h | h
    · rw [h]; exact .head _
    · rw [h]; exact .tail _ (.head _)
    · exact .tail _ (.tail _ h))
  refine codeAny_compLoop_own hturn (CompAt C n sc A cenv g ads s own D ps.length St (fun i ρ' acc' st' => G st' ∧ acc'.length + (ps.length - i) ≤ 1000000 ∧ CT C n sc target elt ifs G Q (ps.drop i) ρ' acc' st'))
    ?_ (ps.length + 1) ⟨g, ads, ρ, st, 0, vs, acc, rfl, Nat.zero_le _, Nx.refl _ _ _ _, z, hst, hD, nD, gD, vrs, ⟨hG, hlen, turns⟩, rfl⟩
  rintro k s' ⟨g', ads', ρ', st', i, vs', acc', hk, hi, nx, z', hst', hD', nD', gD', vrs', ⟨hG', hlen', q'⟩, e'⟩
  by_cases hlt : i < ps.length
  · rw [List.drop_eq_getElem_cons hlt] at q'
    refine wpAny_mono (wk.item (p := ps[i]) hst' z'.base z'.sim hG' (List.getElem?_eq_getElem hlt)) (fun r s₁ hr => ?_) fun a b f => f
    obtain ⟨v, rfl, hr⟩ := hr
    refine wpAny_mono hr (fun _ s₃ h₃ => ?_) fun a b f => f
    obtain ⟨g₃, nx₃, sm₃, vr, hst₃, e₃⟩ := h₃
    have z₃ := z'.step nx₃ (fun b hb => dC b (.tail _ hb)) sm₃
    obtain ⟨hD₃, nD₃, gD₃⟩ := plain_keep nx₃ hD' nD' gD' dO
    have N3 := nx.trans (up nx₃ fun _ h => .inr (.inr h))
    refine wpAny_mono (q' A cenv g₃ ads' s₃ v z₃ vr) (fun _ s₄ h₄ => ?_) fun a b f => f
    obtain ⟨g₄, ads₄, ρ₄, st₄, nx₄, sm₄, fr₄, q₄, e₄⟩ := h₄
    have z₄ : At0 C n sc ρ₄ st₄ A cenv g₄ ads₄ s₄ := ⟨z'.a, z'.sc, fun b o e => nx₄.gsub _ _ (z₃.base _ _ e), fr₄, sm₄⟩
    have hst₄ := wk.frame hst₃ nx₄ fun b hb hm => oL (List.mem_singleton.mp hm ▸ hb)
    obtain ⟨hD₄, nD₄, gD₄⟩ := plain_keep nx₄ hD₃ nD₃ gD₃ (fun hm => dDL (List.mem_singleton.mp hm))
    have N4 := N3.trans (up nx₄ fun _ h => .inl (List.mem_singleton.mp h))
    have v4 := (vrs'.mono nx₃.gsub nx₃.idx).mono nx₄.gsub nx₄.idx
    have e4 : s₄ = { s with heap := s₄.heap, toks := s₄.toks } := by rw [e₄, e₃, e']
    refine Tst.run q₄ z₄ fun b s₅ g₅ ads₅ st₅ z₅ nx₅ e₅ q₅ => ?_
    obtain ⟨hD₅, nD₅, gD₅⟩ := plain_keep nx₅ hD₄ nD₄ gD₄ (by simp)
    have N5 := N4.trans (up nx₅ fun _ h => by simp at h)
    have hst₅ := wk.frame hst₄ nx₅ fun b _ hm => by simp at hm
    have v5 := v4.mono nx₅.gsub nx₅.idx
    have e5 : s₅ = { s with heap := s₅.heap, toks := s₅.toks } := by rw [e₅, e4]
    cases b with
    | false =>
      rw [if_neg (by simp)]
      obtain ⟨hG₅, q₅⟩ := q₅.2 rfl
      exact ⟨ps.length + 1 - (i + 1), by walk_at "om", g₅, ads₅, ρ₄, st₅, i + 1, vs', acc', rfl, hlt, N5, z₅, hst₅, hD₅, nD₅, gD₅, v5, ⟨hG₅, by walk_at "om", q₅⟩, e5⟩
    | true =>
      rw [if_pos rfl]
      refine then_ (q₅.1 rfl) z₅ fun y s₆ g₆ ads₆ p₆ st₆ z₆ nx₆ e₆ vr₆ q₆ => ?_
      obtain ⟨hD₆, nD₆, gD₆⟩ := plain_keep nx₆ hD₅ nD₅ gD₅ (by simp)
      have N6 := N5.trans (up nx₆ fun _ h => by simp at h)
      have hst₆ := wk.frame hst₅ nx₆ fun b _ hm => by simp at hm
      have v6 := v5.mono nx₆.gsub nx₆.idx
      have e6 : s₆ = { s with heap := s₆.heap, toks := s₆.toks } := by rw [e₆, e5]
      have hz : (List.toArray vs').size ≤ sizeLine := by
        have := vrs'.length
        rw [List.size_toArray, sizeLine_is]; omega
      refine wpAny_list_append_plain (hsz := hz) hD₆ fun h₇ hD₇ hs₇ => ?_
      have hl : (h₇.get? D).isSome = true := by obtain ⟨_, e⟩ := hD₇; rw [e]; rfl
      obtain ⟨nx₇, sm₇⟩ := sameBut_one z₆.sim nD₆ gD₆ hs₇.extBut hl
      have z₇ : At0 C n sc ρ₄ st₆ A cenv g₆ ads₆ { s₆ with heap := h₇ } := z₆.step nx₇ (fun b hb => by rw [List.mem_singleton.mp hb]; exact dC D (.head _)) sm₇
      have N7 := N6.trans (up nx₇ fun _ h => .inr (.inl (List.mem_singleton.mp h)))
      have hst₇ := wk.frame hst₆ nx₇ fun b hb hm => dO (List.mem_singleton.mp hm ▸ hb)
      have : (List.toArray vs').push y = List.toArray (vs' ++ [y]) := by simp
      rw [this] at hD₇
      refine ⟨ps.length + 1 - (i + 1), by walk_at "om", g₆, ads₆, ρ₄, st₆, i + 1, vs' ++ [y], acc' ++ [p₆], rfl, hlt, N7, z₇, hst₇, hD₇, nD₆, gD₆, v6.append (.cons vr₆ .nil), ⟨q₆.1, ?_, q₆.2⟩, by rw [e6]⟩
      rw [List.length_append, List.length_singleton]; omega
  · have hi' : i = ps.length := by walk_at "om"
    subst hi'
    rw [List.drop_length] at q'
    refine wpAny_mono (wk.done hst' z'.sim hG') (fun r s₁ hr => ?_) fun a b f => f
    obtain ⟨rfl, ext, e₁⟩ := hr
    have lv := wk.live hst'
    have sm₁ : Sim C.pw g' ads' st' s₁.heap := z'.sim.ext fun b o hb e => ext b o (fun hm => by
      obtain ⟨m1, m2, _⟩ := lv b hm
      rcases hb with hb | hb
      · exact m1 hb
      · exact hb m2) e
    obtain ⟨m, hn, hm⟩ := z'.fr.ns
    obtain ⟨oL', es, ep, hL, r⟩ := id hn
    exact hR s₁ g' ads' st' vs' acc' s'.heap m nx ext sm₁ (hD'.at fun o e => ext _ _ dO e) vrs' nD' gD' ⟨oL', es, ep, ext _ _ oL hL, r⟩ z'.fr.la z'.fr.lg q' (by rw [e₁, e'])
end
/-! ## a comprehension's own scope -/
noncomputable def clo (cells : List (Str × Addr)) : List (Str × NameKind) → List (Str × Addr) → List (Str × Addr)
  | [], acc => acc
  | (n, k) :: r, acc => if k == .free then (match cells.lookup n with | some a => clo cells r ((n, a) :: acc) | none => clo cells r acc) else clo cells r acc

theorem clo_cons (cells : List (Str × Addr)) (n : Str) (k : NameKind) (r : List (Str × NameKind)) (acc : List (Str × Addr)) :
    clo cells ((n, k) :: r) acc = if k == .free then (match cells.lookup n with | some a => clo cells r ((n, a) :: acc) | none => clo cells r acc) else clo cells r acc := by rw [clo]

theorem closureFor_is {scope : Scope} {env : Env} (h : ∀ n, (n, NameKind.free) ∈ scope.names → (env.cells.lookup n).isSome = true) : closureFor scope env = pure (clo env.cells scope.names []) := by
  have key : ∀ (l : List (Str × NameKind)) (acc : List (Str × Addr)), (∀ n, (n, NameKind.free) ∈ l → (env.cells.lookup n).isSome = true) →
      (forIn l acc fun x r => if (x.2 == NameKind.free) = true then (do let __do_lift ← cellOf env x.1; pure (ForInStep.yield ((x.1, __do_lift) :: r))) else pure (ForInStep.yield r) : Sem _) = pure (clo env.cells l acc) := by
    intro l
    induction l with
    | nil => intro acc _; rfl
    | cons x l ih =>
      intro acc hl
      obtain ⟨n, k⟩ := x
      rw [List.forIn_cons]
      by_cases hk : (k == NameKind.free) = true
      · have hk' : k = .free := eq_of_beq hk
        subst hk'
        obtain ⟨a, ha⟩ := Option.isSome_iff_exists.mp (hl n (.head _))
        have hc : cellOf env n = pure a := by unfold cellOf; rw [ha]
        simp only [hk, if_true, hc, pure_bind]
        rw [ih _ fun m hm => hl m (.tail _ hm)]
        rw [clo_cons, if_pos hk, ha]
      · simp only [if_neg hk, pure_bind]
        rw [ih _ fun m hm => hl m (.tail _ hm)]
        rw [clo_cons, if_neg hk]
  have := key scope.names [] h
  unfold closureFor
  simp only [this, pure_bind]

theorem clo_spec {cells : List (Str × Addr)} : ∀ (l : List (Str × NameKind)) (acc : List (Str × Addr)), (l.map (·.1)).Nodup → (acc.map (·.1)).Nodup → (∀ x ∈ l, x.1 ∉ acc.map (·.1)) →
    ((clo cells l acc).map (·.1)).Nodup ∧ (∀ x c, (clo cells l acc).lookup x = some c ↔ acc.lookup x = some c ∨ ((x, NameKind.free) ∈ l ∧ cells.lookup x = some c)) := by
  intro l
  induction l with
  | nil => intro acc _ h _; exact ⟨h, fun x c => ⟨.inl, fun h => h.elim id fun h => by cases h.1⟩⟩
  | cons y l ih =>
    intro acc hn ha hd
    obtain ⟨n, k⟩ := y
    rw [List.map_cons, List.nodup_cons] at hn
    have hd' : ∀ x ∈ l, x.1 ∉ acc.map (·.1) := fun x hx => hd x (.tail _ hx)
    have skip : ∀ x c, (¬ (k = .free ∧ ∃ a, cells.lookup n = some a)) → ((acc.lookup x = some c ∨ ((x, NameKind.free) ∈ l ∧ cells.lookup x = some c)) ↔ (acc.lookup x = some c ∨ ((x, NameKind.free) ∈ (n, k) :: l ∧ cells.lookup x = some c))) := by
      intro x c hno
      constructor
      · rintro (h | ⟨h, h'⟩)
        · exact .inl h
        · exact .inr ⟨.tail _ h, h'⟩
      · rintro (h | ⟨h, h'⟩)
        · exact .inl h
        · rcases List.mem_cons.mp h with e | h
          · cases e; exact absurd ⟨rfl, _, h'⟩ hno
          · exact .inr ⟨h, h'⟩
    rw [clo_cons]
    by_cases hk : (k == NameKind.free) = true
    · have hk' : k = .free := eq_of_beq hk
      subst hk'
      rw [if_pos hk]
      cases e : cells.lookup n with
      | none =>
        obtain ⟨h1, h2⟩ := ih acc hn.2 ha hd'
        exact ⟨h1, fun x c => (h2 x c).trans (skip x c fun q => by obtain ⟨_, a, q⟩ := q; rw [e] at q; cases q)⟩
      | some a =>
        obtain ⟨h1, h2⟩ := ih ((n, a) :: acc) hn.2 (by rw [List.map_cons, List.nodup_cons]; exact ⟨hd _ (.head _), ha⟩) fun x hx => by
          rw [List.map_cons, List.mem_cons]
          rintro (q | q)
          · exact hn.1 (List.mem_map.mpr ⟨x, hx, q⟩)
          · exact hd' x hx q
        refine ⟨h1, fun x c => (h2 x c).trans ?_⟩
        rw [List.lookup_cons]
        by_cases q : x = n
        · subst q
          simp only [beq_self_eq_true, Option.some.injEq]
          have n1 : acc.lookup x = none := by
            cases r : acc.lookup x with
            | none => rfl
            | some c' => exact absurd (List.mem_map.mpr ⟨_, lookup_mem r, rfl⟩) (hd _ (.head _))
          constructor
          · rintro (h | ⟨h, h'⟩)
            · exact .inr ⟨.head _, by rw [e, h]⟩
            · exact absurd (List.mem_map.mpr ⟨_, h, rfl⟩) hn.1
          · rintro (h | ⟨h, h'⟩)
            · rw [n1] at h; cases h
            · rw [e] at h'; cases h'; exact .inl rfl
        · have : (x == n) = false := by simpa using q
          simp only [this]
          constructor
          · rintro (h | ⟨h, h'⟩)
            · exact .inl h
            · exact .inr ⟨.tail _ h, h'⟩
          · rintro (h | ⟨h, h'⟩)
            · exact .inl h
            · rcases List.mem_cons.mp h with r | h
              · cases r; exact absurd rfl q
              · exact .inr ⟨h, h'⟩
    · rw [if_neg hk]
      obtain ⟨h1, h2⟩ := ih acc hn.2 ha hd'
      exact ⟨h1, fun x c => (h2 x c).trans (skip x c fun q => hk (by rw [q.1]; rfl))⟩

noncomputable def relS (csc : Scope) : Scope := { csc with names := csc.names.map fun (n, k) => if (k == NameKind.free) = true then (n, .cell) else (n, k) }
theorem relabel_is {csc sc : Scope} {env : Env} (e : env.scope = sc) (hk : env.scope.kind = .function) (hfree : csc.names.all (fun x => x.2 != .free || sc.names.lookup x.1 == some .cell) = true) : relabel csc env = relS csc := by
  unfold relabel relS
  congr 1
  refine List.map_congr_left fun x hx => ?_
  obtain ⟨n, k⟩ := x
  have := List.all_eq_true.mp hfree _ hx
  simp only
  by_cases hf : (k == NameKind.free) = true
  · have hk' : k = .free := eq_of_beq hf
    subst hk'
    have h2 : (sc.names.lookup n == some NameKind.cell) = true := by simpa using this
    have h3 : env.kindOf n = some .cell := by unfold Env.kindOf; rw [e]; exact eq_of_beq h2
    rw [hk, h3]
    rfl
  · have hf' : (k == NameKind.free) = false := by simpa using hf
    rw [hf']
    rfl
theorem rel_lookup {x : Str} : ∀ {l : List (Str × NameKind)}, (l.map fun (n, k) => if (k == NameKind.free) = true then (n, NameKind.cell) else (n, k)).lookup x = (l.lookup x).map fun k => if (k == NameKind.free) = true then .cell else k
  | [] => rfl
  | (n, k) :: r => by
    rw [List.map_cons, List.lookup_cons]
    by_cases hf : (k == NameKind.free) = true
    · simp only [hf, if_true]
      rw [List.lookup_cons]
      cases q : x == n with
      | true => show some NameKind.cell = some (if (k == NameKind.free) = true then NameKind.cell else k); rw [if_pos hf]
      | false => exact rel_lookup
    · have hf' : (k == NameKind.free) = false := by simpa using hf
      simp only [hf', Bool.false_eq_true, if_false]
      rw [List.lookup_cons]
      cases q : x == n with
      | true => show some k = some (if (k == NameKind.free) = true then NameKind.cell else k); rw [if_neg hf]
      | false => exact rel_lookup

/-- what a comprehension sees of the frame around it -/
noncomputable def cellsOf (csc : Scope) (ρ : List (Str × PV)) : List (Str × PV) := ρ.filter fun y => csc.names.lookup y.1 == some .free
theorem cellsOf_lookup {csc : Scope} {x : Str} {p : PV} : ∀ {ρ : List (Str × PV)}, (cellsOf csc ρ).lookup x = some p → csc.names.lookup x = some .free ∧ ρ.lookup x = some p
  | [], h => by cases h
  | (y, q) :: r, h => by
    unfold cellsOf at h
    rw [List.filter_cons] at h
    split at h
    · rename_i c
      rw [List.lookup_cons] at h ⊢
      cases e : x == y with
      | true =>
        simp only [e] at h ⊢
        rw [eq_of_beq e]
        exact ⟨eq_of_beq c, h⟩
      | false =>
        simp only [e] at h ⊢
        exact cellsOf_lookup h
    · rename_i c
      have := cellsOf_lookup (ρ := r) h
      refine ⟨this.1, ?_⟩
      rw [List.lookup_cons]
      cases e : x == y with
      | true =>
        exfalso
        rw [eq_of_beq e] at this
        exact c (by rw [this.1]; rfl)
      | false => exact this.2

theorem FrOk.ext {env : Env} {ρ : List (Str × PV)} {g : Fz} {ads : List Addr} {h h' : Heap} (F : FrOk env ρ g ads h) (ext : ∀ b ∈ ownOf env, ∀ o, h.get? b = some o → h'.get? b = some o) : FrOk env ρ g ads h' := by
  obtain ⟨m, hn, hm⟩ := F.ns
  obtain ⟨oL, es, ep, hL, r⟩ := id hn
  have ck : ∀ y c v₀, env.cells.lookup y = some c → h.IsCell c v₀ → h'.IsCell c v₀ := fun y c v₀ hc hv => by
    obtain ⟨o, ho, hd⟩ := hv
    exact ⟨o, ext c (.tail _ (List.mem_map.mpr ⟨_, lookup_mem hc, rfl⟩)) o ho, hd⟩
  refine ⟨F.kind, F.glob, F.bi, F.la, F.lg, ⟨m, ⟨oL, es, ep, ext _ (.head _) _ hL, r⟩, hm⟩, fun y c hc => ?_, F.cinj, fun y p hy hk => ?_, F.cd, F.cn⟩
  · obtain ⟨n1, n2, n3, v₀, hv⟩ := F.cells y c hc
    exact ⟨n1, n2, n3, v₀, ck _ _ _ hc hv⟩
  · obtain ⟨c, v, hc, hv, hr⟩ := F.cv y p hy hk
    exact ⟨c, v, hc, ck _ _ _ hc hv, hr⟩

theorem adopt {P : PW} {g : Fz} {ads : List Addr} {st : List PObj} {h : Heap} {D : Addr} {vs : List Value} {acc : List PV} (z : Sim P g ads st h) (hD : h.PlainList D vs.toArray) (nD : D ∉ ads) (gD : g D = none) (lo : mainGlobals < D) (vrs : VRs g ads vs acc) :
    Sim P g (ads ++ [D]) (st ++ [.list acc]) h := by
  have idx : ∀ (n : Nat) (a : Addr), ads[n]? = some a → (ads ++ [D])[n]? = some a := fun n a e => by
    obtain ⟨hl, _⟩ := List.getElem?_eq_some_iff.mp e
    rw [List.getElem?_append_left hl]; exact e
  obtain ⟨k, eD⟩ := hD
  refine ⟨z.gh, List.nodup_append.mpr ⟨z.nd, by simp, fun a ha b hb => by rw [List.mem_singleton.mp hb]; exact fun q => nD (q ▸ ha)⟩, fun a ha => ?_, fun a ha => ?_, by rw [List.length_append, List.length_append, z.len]; rfl, fun n a p ha hp => ?_⟩
  · rcases List.mem_append.mp ha with ha | ha
    · exact z.ag a ha
    · rw [List.mem_singleton.mp ha]; exact gD
  · rcases List.mem_append.mp ha with ha | ha
    · exact z.hi a ha
    · rw [List.mem_singleton.mp ha]; exact lo
  · by_cases hl : n < ads.length
    · rw [List.getElem?_append_left hl] at ha
      rw [List.getElem?_append_left (z.len ▸ hl)] at hp
      exact (z.ob n a p ha hp).mono (fun a b e => e) idx fun o' e => e
    · rw [List.getElem?_append_right (Nat.le_of_not_lt hl)] at ha
      rw [List.getElem?_append_right (z.len ▸ Nat.le_of_not_lt hl), ← z.len] at hp
      have h0 : n - ads.length = 0 := by
        obtain ⟨q, _⟩ := List.getElem?_eq_some_iff.mp ha
        simp at q; omega
      rw [h0] at ha hp
      cases ha; cases hp
      exact .list eD (vrs.mono (fun a b e => e) idx)
theorem Nx.adopt {own : List Addr} {g g' : Fz} {ads ads' : List Addr} {h h' : Heap} (x : Nx own g ads h g' ads' h') {D : Addr} (e : h.get? D = Option.none) : Nx own g ads h g' (ads' ++ [D]) h' := by
  obtain ⟨more, hm⟩ := x.asub
  exact ⟨x.gsub, ⟨more ++ [D], by rw [hm, List.append_assoc]⟩, x.keep, x.gnew, fun a ha hn => (List.mem_append.mp ha).elim (fun q => x.anew a q hn) fun q => by rw [List.mem_singleton.mp q]; exact e, x.dom⟩
/-- the frame of a comprehension -/
theorem comp_frame {env : Env} {csc sc : Scope} {ρ : List (Str × PV)} {g : Fz} {ads : List Addr} {h h₁ : Heap} {Cc : Addr} {cl : List (Str × Addr)} (F : FrOk env ρ g ads h) (hsc : env.scope = sc) (hkind : csc.kind = .function)
    (hcell : csc.names.all (fun x => x.2 != .cell) = true) (hfree : csc.names.all (fun x => x.2 != .free || sc.names.lookup x.1 == some .cell) = true) (hnd : (csc.names.map (·.1)).Nodup)
    (hcl : cl = clo env.cells csc.names []) (fresh : h.get? Cc = none) (nC : Cc ∉ ads) (gC : g Cc = none) (ext : ∀ b o, h.get? b = some o → h₁.get? b = some o) {m : Str → Option Value} (hns : h₁.Ns Cc m) :
    FrOk { scope := relS csc, locals := Cc, globals := env.globals, cells := cl, qual := env.qual, func := none, code := env.code, frame := env.frame, builtins := env.builtins } (cellsOf csc ρ) g ads h₁ := by
  obtain ⟨s1, s2⟩ := clo_spec (cells := env.cells) csc.names [] hnd List.nodup_nil (fun _ _ => by simp)
  rw [← hcl] at s1 s2
  have low : ∀ y c, cl.lookup y = some c → env.cells.lookup y = some c ∧ (y, NameKind.free) ∈ csc.names := fun y c hc => by
    rcases (s2 y c).mp hc with q | q
    · cases q
    · exact ⟨q.2, q.1⟩
  have kinds : ∀ y, (relS csc).names.lookup y = (csc.names.lookup y).map fun k => if (k == NameKind.free) = true then .cell else k := fun y => rel_lookup
  have cellKind : ∀ y, csc.names.lookup y = some .free → env.kindOf y = some .cell := fun y hy => by
    have := List.all_eq_true.mp hfree _ (lookup_mem hy)
    unfold Env.kindOf; rw [hsc]
    simpa using this
  refine ⟨hkind, F.glob, F.bi, nC, gC, ⟨m, hns, fun x p hx hk => ?_⟩, fun x c hc => ?_, fun x y c hx hy => F.cinj x y c (low x c hx).1 (low y c hy).1, fun x p hx _ => ?_, fun x hk => ?_, s1⟩
  · exfalso
    have e := (cellsOf_lookup hx).1
    have : (relS csc).names.lookup x = some .local := hk
    rw [kinds, e] at this
    cases this
  · obtain ⟨n1, n2, n3, v₀, o, ho, hd⟩ := F.cells x c (low x c hc).1
    refine ⟨fun q => ?_, n2, fun _ => n3 (by rw [cellKind x (mem_lookup hnd (low x c hc).2)]; simp), v₀, o, ext _ _ ho, hd⟩
    rw [show c = Cc from q, fresh] at ho; cases ho
  · obtain ⟨e, hp⟩ := cellsOf_lookup hx
    obtain ⟨c, v, hc, ⟨o, ho, hd⟩, vr⟩ := F.cv x p hp (.inl (cellKind x e))
    exact ⟨c, v, (s2 x c).mpr (.inr ⟨lookup_mem e, hc⟩), ⟨o, ext _ _ ho, hd⟩, vr⟩
  · have : (relS csc).names.lookup x = some .cell := hk
    rw [kinds] at this
    cases e : csc.names.lookup x with
    | none => rw [e] at this; cases this
    | some k =>
      rw [e] at this
      by_cases hf : (k == NameKind.free) = true
      · have hk' : k = .free := eq_of_beq hf
        subst hk'
        obtain ⟨c, hc⟩ := F.cd x (cellKind x e)
        exact ⟨c, (s2 x c).mpr (.inr ⟨lookup_mem e, hc⟩)⟩
      · have hf' : (k == NameKind.free) = false := by simpa using hf
        simp only [Option.map_some, hf', Bool.false_eq_true, if_false, Option.some.injEq] at this
        have q := List.all_eq_true.mp hcell _ (lookup_mem e)
        rw [this] at q
        cases q

section
variable {C : Ctx0} {n : Nat} {sc : Scope} {ρ : List (Str × PV)} {st : List PObj} {Qn : PostN} {Qr : Post}

theorem comp_block {A : Around} {env : Env} {csc : Scope} {g g₂ : Fz} {ads ads₂ : List Addr} {s s₂ : Shared} {st₂ : List PObj} {I : Addr} {own : List Addr} {St : Nat → Fz → List Addr → Heap → Prop} {ps : List PV} {G : List PObj → Prop} {target iter elt : Expr} {ifs : List Expr}
    {pos : Pos} {Q : List PV → List PObj → Prop} {RR : Value → Addr → Result → Shared → Prop} (hkind : csc.kind = .function)
    (hcell : csc.names.all (fun x => x.2 != .cell) = true) (hfree : csc.names.all (fun x => x.2 != .free || sc.names.lookup x.1 == some .cell) = true) (hnd : (csc.names.map (·.1)).Nodup)
    (z : At0 C n sc ρ st A env g ads s) (wk : Wk C A target I own ps G St) (nx₂ : Nx [] g ads s.heap g₂ ads₂ s₂.heap) (sm₂ : Sim C.pw g₂ ads₂ st₂ s₂.heap) (hst : St 0 g₂ ads₂ s₂.heap) (fresh : ∀ b ∈ own, s.heap.get? b = none) (e₂ : s₂ = { s with heap := s₂.heap, toks := s₂.toks })
    (hG : G st₂) (hlen : ps.length ≤ 1000000) (turns : CT C n (relS csc) target elt ifs G Q ps (cellsOf csc ρ) [] st₂)
    (hK : ∀ D Cc s' g' ads' st' acc' m', s.heap.get? D = none → s.heap.get? Cc = none → D ≠ Cc → Nx [] g ads s.heap g' (ads' ++ [D]) s'.heap → Sim C.pw g' (ads' ++ [D]) (st' ++ [.list acc']) s'.heap → ads'.length = st'.length → Cc ∉ ads' ++ [D] → g' Cc = none → s'.heap.Ns Cc m' → Q acc' st' →
      s' = { s with heap := s'.heap, toks := s'.toks } → RR (.ref D) Cc (.ok .next) s') :
    wpAny (model C.prog C.w) A (newList []) (fun acc s₃ => wpAny (model C.prog C.w) A (newFunctionEnv csc env.globals (clo env.cells csc.names []) [] env.qual none .none (some env)) (fun cenv s₄ =>
      codeAny (model C.prog C.w) A (.compStart (.ListComp elt [⟨target, iter, ifs, 0⟩] csc pos) 0 (.ref I) acc { cenv with scope := relabel csc env }) (RR acc cenv.locals) s₄) No s₃) No s₂ := by
  have z₂ : At0 C n sc ρ st₂ A env g₂ ads₂ s₂ := z.next nx₂ sm₂
  have hcell' : ∀ y ∈ csc.names, y.2 ≠ .cell := fun y hy => by have := List.all_eq_true.mp hcell _ hy; simpa using this
  refine wpAny_newObj_type (wpAny_newFunctionEnv hcell' (by intro y hy; simp at hy) (fun h₁ hns₁ hsb₁ => ?_) hkind)
  dsimp only at hns₁ hsb₁ ⊢
  have lo := z₂.lo
  obtain ⟨nxD, smD⟩ := hidden z₂.sim { cls := .type "list", dict := none, data := .seq ([] : List Value).toArray }
  generalize hH2 : s₂.heap.push { cls := .type "list", dict := none, data := .seq ([] : List Value).toArray } = H2 at hns₁ hsb₁ nxD smD ⊢
  have hC : H2.objs.size = s₂.heap.objs.size + 1 := by rw [← hH2, Heap.size_push]
  have hDC : s₂.heap.objs.size ≠ H2.objs.size := by rw [hC]; exact Nat.ne_of_lt (Nat.lt_succ_self _)
  have fD : s₂.heap.get? s₂.heap.objs.size = none := fresh_none
  have fC : s₂.heap.get? H2.objs.size = none := fresh_get (by rw [hC]; exact Nat.le_succ _)
  have gD2 : H2.get? s₂.heap.objs.size = some { cls := .type "list", dict := none, data := .seq ([] : List Value).toArray } := by rw [← hH2]; exact Heap.get?_push_size _ rfl
  have hpl : h₁.PlainList s₂.heap.objs.size ([] : List Value).toArray := ⟨_, hsb₁.extBut _ _ hDC (Heap.get?_push_of_some _ gD2)⟩
  have ext21 : ∀ b o, s₂.heap.get? b = some o → h₁.get? b = some o := fun b o e => hsb₁.extBut b o (fun q => by rw [q, fC] at e; cases e) (Heap.get?_push_of_some _ (by rw [← hH2]; exact Heap.get?_push_of_some _ e))
  have nx21 : Nx [] g₂ ads₂ s₂.heap g₂ ads₂ h₁ := ⟨fun a b e => e, ⟨[], by simp⟩, fun b o _ _ e => ext21 b o e, fun a n o e => (by rw [n] at e; cases e), fun _ m n => absurd m n, fun b e => by
    obtain ⟨o', ho'⟩ := Option.isSome_iff_exists.mp e
    rw [ext21 _ _ ho']; rfl⟩
  have sm1 : Sim C.pw g₂ ads₂ st₂ h₁ := z₂.sim.ext fun b o _ e => ext21 b o e
  have hst₁ : St 0 g₂ ads₂ h₁ := wk.frame hst nx21 fun b _ hm => by simp at hm
  have frc := comp_frame (Cc := H2.objs.size) z₂.fr z.sc hkind hcell hfree hnd rfl fC (z₂.sim.ads_fresh fC) (z₂.sim.gfresh fC) ext21 hns₁
  have ownThere2 : ∀ b ∈ own, ∃ o, s₂.heap.get? b = some o := fun b hb => (wk.live hst b hb).2.2
  have cellsThere : ∀ b ∈ (clo env.cells csc.names []).map (·.2), ∃ o, s.heap.get? b = some o := fun b hb => by
    obtain ⟨⟨y, c⟩, hm, rfl⟩ := List.mem_map.mp hb
    have := (clo_spec (cells := env.cells) csc.names [] hnd List.nodup_nil (fun _ _ => by simp)).2 y c
    rcases this.mp (mem_lookup (clo_spec (cells := env.cells) csc.names [] hnd List.nodup_nil (fun _ _ => by simp)).1 hm) with q | q
    · cases q
    · exact z.fr.ownThere _ (.tail _ (List.mem_map.mpr ⟨_, lookup_mem q.2, rfl⟩))
  have hscope : relabel csc env = relS csc := relabel_is z.sc z.fr.kind hfree
  have loop : ∀ s₃ : Shared, s₃ = { s₂ with heap := h₁, toks := s₂.toks + ([] : List (Str × Value)).length } →
      codeAny (model C.prog C.w) A (.compLoop (.ListComp elt [⟨target, iter, ifs, 0⟩] csc pos) 0 (.ref I) (.ref s₂.heap.objs.size) { scope := relS csc, locals := H2.objs.size, globals := env.globals, cells := clo env.cells csc.names [], qual := env.qual, func := none, code := env.code, frame := env.frame, builtins := env.builtins })
        (RR (.ref s₂.heap.objs.size) H2.objs.size) s₃ := by
    rintro s₃ rfl
    refine comp_loop (own := own) (St := St) (ps := ps) (G := G) (target := target) (ifs := ifs) (vs := []) (acc := []) (sc := relS csc) (ρ := cellsOf csc ρ) (Q := Q) (by rfl) ⟨z.a, rfl, fun b o e => nx21.gsub _ _ (z₂.base _ _ e), frc, sm1⟩ wk hst₁ hG hpl
      (z₂.sim.ads_fresh fD) (z₂.sim.gfresh fD) (fun b hb hm => ?_) (fun hm => ?_) .nil (by simpa using hlen) turns ?_
    · rcases List.mem_cons.mp hm with q | q
      · rcases List.mem_cons.mp hb with r | r
        · exact hDC (r.symm.trans q)
        · obtain ⟨o, ho⟩ := ownThere2 b r
          rw [show b = H2.objs.size from q, fC] at ho; cases ho
      · obtain ⟨o, ho⟩ := cellsThere b q
        rcases List.mem_cons.mp hb with r | r
        · rw [r] at ho
          rw [nx₂.none fD] at ho; cases ho
        · rw [fresh b r] at ho; cases ho
    · obtain ⟨o, ho⟩ := ownThere2 _ hm
      rw [fD] at ho; cases ho
    · intro s' g' ads' st' vs' acc' hm m' nxl ext sml hpl' vrs' nD gD' hns nC gC q e'
      have fDs := nx₂.none fD
      have fCs := nx₂.none fC
      have tot : Nx ([] ++ (H2.objs.size :: s₂.heap.objs.size :: own)) g ads s.heap g' ads' hm := (((nx₂.trans nx21).weaken fun a ha => by simp at ha).trans nxl)
      have fr : ∀ b ∈ H2.objs.size :: s₂.heap.objs.size :: own, s.heap.get? b = none := fun b hb => by
        rcases List.mem_cons.mp hb with r | hb
        · rw [r]; exact fCs
        · rcases List.mem_cons.mp hb with r | hb
          · rw [r]; exact fDs
          · exact fresh b hb
      have fin : Nx [] g ads s.heap g' ads' s'.heap := tot.finish fr fun b o hb e => ext b o (fun r => hb (.tail _ (.tail _ r))) e
      refine hK _ _ s' g' ads' st' acc' m' fDs fCs hDC (fin.adopt fDs) (adopt sml hpl' nD gD' lo vrs') sml.len (fun r => ?_) gC hns q (by rw [e', e₂])
      rcases List.mem_append.mp r with r | r
      · exact nC r
      · exact hDC (List.mem_singleton.mp r).symm
  have hst₁' := hst₁
  rw [hscope]
  exact codeAny_compStart_list (loop _ rfl) (wpAny_mono (wk.self (Q := fun v s' => v = .ref I ∧ s' = { s₂ with heap := h₁, toks := s₂.toks + ([] : List (Str × Value)).length }) hst₁' ⟨rfl, rfl⟩) (fun v s' r => by obtain ⟨rfl, rfl⟩ := r; exact loop _ rfl) fun a b f => f.elim)

theorem W.comp {csc : Scope} {target iter elt : Expr} {ifs : List Expr} {pos : Pos} {Q : Post} (hkind : csc.kind = .function)
    (hcell : csc.names.all (fun x => x.2 != .cell) = true) (hfree : csc.names.all (fun x => x.2 != .free || sc.names.lookup x.1 == some .cell) = true) (hnd : (csc.names.map (·.1)).Nodup)
    (hs : ∀ env x, foldedSetIterable iter env x = pure x)
    (h : WI C n sc target iter ρ st (fun ps G st' => G st' ∧ ps.length ≤ 1000000 ∧ CT C n (relS csc) target elt ifs G (fun acc st'' => Q (.loc st''.length) (st'' ++ [.list acc])) ps (cellsOf csc ρ) [] st')) :
    W C n sc (.ListComp elt [⟨target, iter, ifs, 0⟩] csc pos) ρ st Q := by
  intro A env g ads s z
  rw [eval_ListComp]
  refine wpAny_comprehension_free (use := none) rfl (hs env) (closureFor_is fun m hm => ?_) hkind (fun x hx hl => ?_) (wpAny_mono (h A env g ads s z) (fun xv s₁ h₁ => wpAny_mono h₁ (fun it s₂ h₂ => ?_) fun a b f => f) fun a b f => f)
  · have := List.all_eq_true.mp hfree _ hm
    have hk : env.kindOf m = some .cell := by unfold Env.kindOf; rw [z.sc]; simpa using this
    obtain ⟨c, hc⟩ := z.fr.cd m hk
    rw [hc]; rfl
  · obtain ⟨y, k⟩ := x
    subst hl
    exact mem_lookup hnd hx
  · obtain ⟨I, own, St, ps, G, g₂, ads₂, st₂, rfl, wk, nx₂, sm₂, hst₂, fresh, ⟨hG, hlen, q⟩, e₂⟩ := h₂
    refine comp_block (RR := fun acc C' => compPost (model C.prog C.w) A No none (Res C.pw [] g ads s Q) acc C') hkind hcell hfree hnd z wk nx₂ sm₂ hst₂ fresh e₂ hG hlen q ?_
    intro D Cc s' g' ads' st' acc' m' fD fC hDC nx sm hl nC gC hns q' e'
    refine ⟨m', hns, fun h' hs' => ?_⟩
    refine ⟨g', ads' ++ [D], .loc st'.length, st' ++ [.list acc'], Nx.finish (own := [Cc]) (own' := []) (h₁ := s'.heap) (nx.weaken fun a ha => by simp at ha) (fun b hb => by rw [List.mem_singleton.mp hb]; exact fC) (fun b o hb e => hs'.extBut b o (fun r => hb (by rw [r]; exact .head _)) e), ?_, .loc (by rw [← hl]; simp), q', by rw [e']⟩
    refine sm.ext fun b o hb e => hs'.extBut b o (fun r => ?_) e
    subst r
    rcases hb with hb | hb
    · exact nC hb
    · exact hb gC

theorem swaps_is {csc : Scope} {elt : Expr} {gens : List Comprehension} {pos py spos : Pos} {y : Str} (hline : (py.line == pos.line) = true) (hy : sc.names.lookup y = some .local) (hny : (csc.names.any fun (n, k) => n == y && (k == .local || k == .cell)) = false)
    {env : Env} (e : env.scope = sc) (hk : env.scope.kind = .function) : swapsWith (.ListComp elt gens csc pos) (some (.Name y py)) spos.line env = pure true := by
  show (pure (env.blockKind == .function && env.kindOf y == some .local && py.line == pos.line && !(csc.names.any fun (n, k) => n == y && (k == .local || k == .cell))) : Sem Bool) = pure true
  have h1 : env.blockKind = .function := by unfold Env.blockKind; rw [hk]; rfl
  have h2 : env.kindOf y = some .local := by unfold Env.kindOf; rw [e]; exact hy
  rw [h1, h2, hline, hny]
  rfl

theorem X1.assignComp {csc : Scope} {target iter elt : Expr} {ifs : List Expr} {pos py spos : Pos} {y : Str} (hkind : csc.kind = .function)
    (hcell : csc.names.all (fun x => x.2 != .cell) = true) (hfree : csc.names.all (fun x => x.2 != .free || sc.names.lookup x.1 == some .cell) = true) (hnd : (csc.names.map (·.1)).Nodup)
    (hs : ∀ env x, foldedSetIterable iter env x = pure x) (hline : (py.line == pos.line) = true) (hy : sc.names.lookup y = some .local) (hny : (csc.names.any fun (n, k) => n == y && (k == .local || k == .cell)) = false)
    (h : WI C n sc target iter ρ st (fun ps G st' => G st' ∧ ps.length ≤ 1000000 ∧ CT C n (relS csc) target elt ifs G (fun acc st'' => Qn (upd ρ y (.loc st''.length)) (st'' ++ [.list acc])) ps (cellsOf csc ρ) [] st')) :
    X1 C n sc (.Assign [.Name y py] (.ListComp elt [⟨target, iter, ifs, 0⟩] csc pos) spos) ρ st Qn Qr := by
  intro A env g ads s z
  rw [exec_Assign_Name_used _ _ _ _ (swaps_is hline hy hny z.sc z.fr.kind)]
  refine wpAny_bind (wpAny_standAt (wpAny_bind ?_))
  show wpAny _ A (do let _ ← comprehension (.ListComp elt [⟨target, iter, ifs, 0⟩] csc pos) csc env _ (newList []) false (eval iter env) (some (PySem.assign (.Name y py) env))) _ _ s
  refine wpAny_bind (wpAny_mono (wpAny_comprehension_free (use := some (PySem.assign (.Name y py) env)) (Q := fun _ s' => RX C.pw env g ads s Qn Qr .next s') rfl (hs env) (closureFor_is fun m hm => ?_) hkind (fun x hx hl => ?_)
    (wpAny_mono (h A env g ads s z) (fun xv s₁ h₁ => wpAny_mono h₁ (fun it s₂ h₂ => ?_) fun a b f => f) fun a b f => f)) (fun _ s' hq => wpAny_pure (wpAny_pure hq)) fun a b e => e)
  · have := List.all_eq_true.mp hfree _ hm
    have hk : env.kindOf m = some .cell := by unfold Env.kindOf; rw [z.sc]; simpa using this
    obtain ⟨c, hc⟩ := z.fr.cd m hk
    rw [hc]; rfl
  · obtain ⟨y, k⟩ := x
    subst hl
    exact mem_lookup hnd hx
  · obtain ⟨I, own, St, ps, G, g₂, ads₂, st₂, rfl, wk, nx₂, sm₂, hst₂, fresh, ⟨hG, hlen, q⟩, e₂⟩ := h₂
    refine comp_block (RR := fun acc C' => compPost (model C.prog C.w) A No (some (PySem.assign (.Name y py) env)) (fun _ s' => RX C.pw env g ads s Qn Qr .next s') acc C') hkind hcell hfree hnd z wk nx₂ sm₂ hst₂ fresh e₂ hG hlen q ?_
    intro D Cc s' g' ads' st' acc' m' fD fC hDC nx sm hl nC gC hns q' e'
    show wpAny _ A (PySem.assign (.Name y py) env (.ref D)) _ _ _
    have z' := z.next nx sm
    have vr : VR g' (ads' ++ [D]) (.ref D) (.loc st'.length) := .loc (by rw [← hl]; simp)
    refine wpAny_assign_Name (store_ok z' vr (.inl hy) fun s'' nx'' sm'' fr'' e'' => ?_)
    have off : Cc ∉ ownOf env := fun hm => by
      obtain ⟨o, ho⟩ := z.fr.ownThere _ hm
      rw [fC] at ho; cases ho
    obtain ⟨o, es, ep, ho, r⟩ := hns
    refine ⟨m', ⟨o, es, ep, nx''.keep _ _ nC off ho, r⟩, fun h' hs' => ?_⟩
    refine ⟨g', ads' ++ [D], upd ρ y (.loc st'.length), st' ++ [.list acc'], Nx.finish (own := [Cc]) (own' := ownOf env) (h₁ := s''.heap) ((nx.any.trans nx'').weaken fun a ha => .inl (List.mem_append.mpr (.inl ha))) (fun b hb => by rw [List.mem_singleton.mp hb]; exact fC) (fun b o hb e => hs'.extBut b o (fun r => hb (by rw [r]; exact .head _)) e), ?_, ?_, q', by rw [e'', e']⟩
    · refine sm''.ext fun b o hb e => hs'.extBut b o (fun r => ?_) e
      subst r
      rcases hb with hb | hb
      · exact nC hb
      · exact hb gC
    · exact fr''.ext fun b hb o e => hs'.extBut b o (fun r => off (r ▸ hb)) e
end
/-! ## several targets -/
noncomputable def AsgO (ow : Env → List Addr) (C : Ctx0) (n : Nat) (sc : Scope) (target : Expr) (p : PV) (ρ : List (Str × PV)) (st : List PObj) (Q : PostN) : Prop :=
  ∀ A env g ads s v, At0 C n sc ρ st A env g ads s → VR g ads v p → wpAny (model C.prog C.w) A (assign target env v) (fun _ s' => ResW C.pw (ow env) env g ads s Q s') No s
noncomputable def AsgAll (ow : Env → List Addr) (C : Ctx0) (n : Nat) (sc : Scope) (Q : PostN) : List Expr → List PV → List (Str × PV) → List PObj → Prop
  | [], [], ρ, st => Q ρ st
  | e :: es, p :: ps, ρ, st => AsgO ow C n sc e p ρ st (fun ρ' st' => AsgAll ow C n sc Q es ps ρ' st')
  | _, _, _, _ => False
section
variable {C : Ctx0} {n : Nat} {sc : Scope} {ρ : List (Str × PV)} {st : List PObj} {Qn : PostN} {Qr : Post}

theorem ResW.step {P : PW} {env : Env} {g : Fz} {ads : List Addr} {s s₁ : Shared} {Q : PostN} {s' : Shared} {g₁ : Fz} {ads₁ own : List Addr}
    (x : Nx own g ads s.heap g₁ ads₁ s₁.heap) (e : s₁ = { s with heap := s₁.heap, toks := s₁.toks }) (r : ResW P own env g₁ ads₁ s₁ Q s') : ResW P own env g ads s Q s' := by
  obtain ⟨g', ads', ρ', st', y, z, fr, q, e'⟩ := r
  exact ⟨g', ads', ρ', st', x.trans y, z, fr, q, by rw [e', e]⟩

theorem asgAll_run {ow : Env → List Addr} {Q : PostN} {A : Around} {env : Env} : ∀ (es : List Expr) (ps : List PV) (ρ : List (Str × PV)) (st : List PObj) (g : Fz) (ads : List Addr) (s : Shared) (vs : List Value), At0 C n sc ρ st A env g ads s → VRs g ads vs ps → AsgAll ow C n sc Q es ps ρ st →
    wpAny (model C.prog C.w) A (assignInOrder (es.map fun e => assign e env) vs) (fun _ s' => ResW C.pw (ow env) env g ads s Q s') No s := by
  intro es
  induction es with
  | nil =>
    intro ps ρ st g ads s vs z vr q
    cases ps with
    | nil =>
      cases vr
      exact wpAny_pure ⟨g, ads, ρ, st, Nx.refl _ _ _ _, z.sim, z.fr, q, rfl⟩
    | cons p ps => exact q.elim
  | cons e es ih =>
    intro ps ρ st g ads s vs z vr q
    cases ps with
    | nil => exact q.elim
    | cons p ps =>
      cases vr with
      | @cons v vs _ _ hv hr =>
        show wpAny _ A (do holding vs (assign e env v); assignInOrder (es.map fun e => assign e env) vs) _ _ s
        refine wpAny_bind (wpAny_holding (wpAny_mono (q A env g ads s v z hv) (fun _ s₁ r => ?_) fun a b f => f))
        obtain ⟨g₁, ads₁, ρ₁, st₁, x, z₁, fr, q₁, e₁⟩ := r
        exact wpAny_mono (ih ps ρ₁ st₁ g₁ ads₁ s₁ vs ⟨z.a, z.sc, fun b o e => x.gsub _ _ (z.base _ _ e), fr, z₁⟩ (hr.mono x.gsub x.idx) q₁) (fun _ s' r => r.step x e₁) fun a b f => f

theorem wpAny_draw_list {prog : Program} {w : World} {A : Around} {E : Value → Shared → Prop} {it t : Addr} {items : Array Value} (hne : t ≠ it) : ∀ (n i : Nat) (s : Shared) (Q : List Value → Shared → Prop), s.heap.IsListIter it t i → s.heap.IsList t items → i + n ≤ items.size →
    (∀ h', h'.IsListIter it t (i + n) → Heap.SameBut it s.heap h' → Q ((items.toList.drop i).take n) { s with heap := h' }) → wpAny (model prog w) A (draw (.ref it) n) Q E s
  | 0, i, s, Q, hit, _, _, hQ => by
    show wpAny _ _ (pure []) Q E s
    exact wpAny_pure (by simpa using hQ s.heap hit (Heap.SameBut.refl ..))
  | n + 1, i, s, Q, hit, ht, hle, hQ => by
    have hlt : i < items.size := by walk_at "om"
    show wpAny _ _ (pyNext (.ref it) >>= _) Q E s
    refine wpAny_bind (wpAny_pyNext_list_item hit ht (x := items[i]) (by simp [hlt]) fun h₁ hit₁ hs₁ => ?_)
    refine wpAny_bind (wpAny_holding (wpAny_draw_list hne n (i + 1) _ _ hit₁ (ht.extBut hs₁.extBut hne) (by walk_at "om") fun h₂ hit₂ hs₂ => wpAny_pure ?_))
    have hd : items.toList.drop i = items[i] :: items.toList.drop (i + 1) := by simp [List.drop_eq_getElem_cons, hlt]
    have := hQ h₂ (by rw [show i + (n + 1) = i + 1 + n by walk_at "om"]; exact hit₂) (hs₁.trans hs₂)
    rw [hd, List.take_succ_cons] at this
    exact this
theorem wpAny_unpackItems_list {prog : Program} {w : World} {A : Around} {E : Value → Shared → Prop} {s : Shared} {t : Addr} {items : Array Value} {Q : List Value → Shared → Prop} (hh : A.handled = none) (ht : s.heap.IsList t items)
    (hQ : ∀ h', Heap.ExtBut s.heap.objs.size s.heap h' → Q items.toList { s with heap := h' }) : wpAny (model prog w) A (unpackItems (.ref t) items.size none) Q E s := by
  have hlt : t ≠ s.heap.objs.size := by obtain ⟨o, ho, _⟩ := ht; exact Nat.ne_of_lt (Heap.lt_size ho)
  unfold unpackItems
  refine wpAny_bind ?_
  · unfold notIterableAtAll
    refine wpAny_bind (wpAny_specialOf ht.typeIs slot_list_iter.lookup ?_)
    refine wpAny_pure ?_
    simp only [Bool.false_eq_true, if_false]
    refine wpAny_bind (wpAny_holding (wpAny_pyIter_list ht ?_))
    refine wpAny_bind (wpAny_holding (wpAny_draw_list hlt items.size 0 _ _ ⟨_, Heap.get?_push_size _ rfl, rfl, rfl⟩ (ht.push _) (by walk_at "om") fun h₁ hit₁ hs₁ => ?_))
    have hall : List.take items.size (List.drop 0 items.toList) = items.toList := by
      rw [List.drop_zero]; exact List.take_of_length_le (by simp)
    rw [hall]
    rw [if_neg (by simp)]
    have ht₁ : h₁.IsList t items := (ht.push _).extBut hs₁.extBut hlt
    refine wpAny_bind (wpAny_holding (wpAny_pyNext_list_end hh hit₁ ht₁ (by simp) fun h₂ he₂ => ?_))
    simp only [Option.isSome_none, Bool.false_eq_true, if_false]
    refine wpAny_pure (hQ h₂ fun b o hb e => he₂ b o hb (hs₁.extBut b o hb (Heap.get?_push_of_some _ e)))

theorem ext_nx {P : PW} {g : Fz} {ads : List Addr} {st : List PObj} {h h' : Heap} (z : Sim P g ads st h) (x : Heap.ExtBut h.objs.size h h') : Nx [] g ads h g ads h' ∧ Sim P g ads st h' := by
  have ne : ∀ b o, h.get? b = some o → b ≠ h.objs.size := fun b o e q => by rw [q, fresh_none] at e; cases e
  refine ⟨⟨fun a b e => e, ⟨[], by simp⟩, fun b o _ _ e => x b o (ne b o e) e, fun a n o e => (by rw [n] at e; cases e), fun _ m n => absurd m n, fun b e => ?_⟩, z.ext fun b o _ e => x b o (ne b o e) e⟩
  obtain ⟨o, e⟩ := Option.isSome_iff_exists.mp e
  rw [x b o (ne b o e) e]; rfl

/-- the parts of a tuple or of a list -/
noncomputable def partsOf (st : List PObj) : PV → List PV → Prop
  | .tup l, ps => l = ps
  | .loc i, ps => st[i]? = some (.list ps)
  | _, _ => False
theorem unpack_ok {A : Around} {g : Fz} {ads : List Addr} {s : Shared} {v : Value} {p : PV} {ps : List PV} {R : List Value → Shared → Prop} (hh : A.handled = none) (z : Sim C.pw g ads st s.heap) (vr : VR g ads v p) (hp : partsOf st p ps)
    (k : ∀ vs s', VRs g ads vs ps → Nx [] g ads s.heap g ads s'.heap → Sim C.pw g ads st s'.heap → s' = { s with heap := s'.heap, toks := s'.toks } → R vs s') : wpAny (model C.prog C.w) A (unpackItems v ps.length none) R No s := by
  unfold partsOf at hp
  split at hp
  · subst hp
    cases vr with
    | @tup a vs m l ga r =>
      have := wpAny_unpackItems_tuple (prog := C.prog) (w := C.w) (E := No) (Q := R) hh (s := s) (t := a) (items := vs.toArray) ⟨_, z.gh _ _ ga, rfl, _, rfl⟩ fun h' x => by
        obtain ⟨nx, sm⟩ := ext_nx z x
        exact k vs _ r nx sm rfl
      rw [List.size_toArray, r.length] at this
      exact this
  · obtain ⟨a, rfl, ha, o⟩ := z.ref vr hp
    cases o with
    | @list vs m l e r =>
      have := wpAny_unpackItems_list (prog := C.prog) (w := C.w) (E := No) (Q := R) hh (s := s) (t := a) (items := vs.toArray) ⟨_, e, rfl, _, rfl⟩ fun h' x => by
        obtain ⟨nx, sm⟩ := ext_nx z x
        exact k vs _ r nx sm rfl
      rw [List.size_toArray, r.length] at this
      exact this
  · exact hp.elim

theorem AsgO.tup {ow : Env → List Addr} {es : List Expr} {k : Nat} {pos : Pos} {p : PV} {ps : List PV} {Q : PostN} (hE : ∀ env, assignEach es env = es.map fun e => (false, assign e env)) (hp : partsOf st p ps) (hl : es.length = ps.length) (h : AsgAll ow C n sc Q es ps ρ st) : AsgO ow C n sc (.Tuple es k pos) p ρ st Q := by
  intro A env g ads s v z vr
  rw [arm_assign_Tuple]
  refine wpAny_bind (wpAny_standAt ?_)
  unfold unpack
  have h1 : (assignEach es env).length = ps.length := by rw [hE, List.length_map, hl]
  have h2 : (assignEach es env).findIdx? (·.1) = none := by
    rw [hE, List.findIdx?_eq_none_iff]
    intro x hx
    obtain ⟨e, _, rfl⟩ := List.mem_map.mp hx
    rfl
  have h3 : (assignEach es env).map (·.2) = es.map fun e => assign e env := by rw [hE, List.map_map]; rfl
  rw [h1, h2, h3]
  refine wpAny_bind (wpAny_holding (unpack_ok z.a.hh z.sim vr hp fun vs s' vrs nx sm e' => ?_))
  exact wpAny_mono (asgAll_run _ _ _ _ _ _ _ _ (z.next nx sm) vrs h) (fun _ s'' r => r.step (nx.weaken fun a ha => by simp at ha) e') fun a b f => f
theorem AsgO.nameL {ow : Env → List Addr} (hw : ∀ env, env.locals ∈ ow env) {x : Str} {pos : Pos} {p : PV} (hk : sc.names.lookup x = some .local) (q : Qn (upd ρ x p) st) : AsgO ow C n sc (.Name x pos) p ρ st Qn := by
  intro A env g ads s v z vr
  refine wpAny_mono (AsgL.name hk q A env g ads s v z vr) (fun _ s' r => ?_) fun a b f => f
  obtain ⟨g', ads', ρ', st', x, z', fr, q, e⟩ := r
  exact ⟨g', ads', ρ', st', x.weaken fun a ha => .inl (by rw [List.mem_singleton.mp ha]; exact hw env), z', fr, q, e⟩
theorem AsgO.nameC {x : Str} {pos : Pos} {p : PV} (hk : sc.names.lookup x = some .local ∨ sc.names.lookup x = some .cell) (q : Qn (upd ρ x p) st) : AsgO ownOf C n sc (.Name x pos) p ρ st Qn := Asg.name hk q

theorem AsgL.tup {es : List Expr} {k : Nat} {pos : Pos} {p : PV} {ps : List PV} {Q : PostN} (hE : ∀ env, assignEach es env = es.map fun e => (false, PySem.assign e env)) (hp : partsOf st p ps) (hl : es.length = ps.length) (h : AsgAll (fun env => [env.locals]) C n sc Q es ps ρ st) : AsgL C n sc (.Tuple es k pos) p ρ st Q :=
  AsgO.tup hE hp hl h
theorem Asg.tup {es : List Expr} {k : Nat} {pos : Pos} {p : PV} {ps : List PV} {Q : PostN} (hE : ∀ env, assignEach es env = es.map fun e => (false, PySem.assign e env)) (hp : partsOf st p ps) (hl : es.length = ps.length) (h : AsgAll ownOf C n sc Q es ps ρ st) : Asg C n sc (.Tuple es k pos) p ρ st Q :=
  AsgO.tup hE hp hl h

theorem X1.assignT {elts : List Expr} {k : Nat} {tpos pos : Pos} {value : Expr} (hs : ∀ env, swapsWithSole [.Tuple elts k tpos] value pos.line env = pure false)
    (hw : ∀ env, env.scope = sc → env.scope.kind = .function → swappedStores [.Tuple elts k tpos] value env = pure none)
    (h : W C n sc value ρ st (fun p st' => Asg C n sc (.Tuple elts k tpos) p ρ st' Qn)) : X1 C n sc (.Assign [.Tuple elts k tpos] value pos) ρ st Qn Qr := by
  intro A env g ads s z
  refine PyProof.Rows.Assign_Tuple (then_ h z fun v s₁ g₁ ads₁ p st₁ z₁ x₁ e₁ vr q => ?_) (hs env) (hw env z.sc z.fr.kind)
  refine wpAny_mono (q A env g₁ ads₁ s₁ v z₁ vr) (fun _ s' r => ?_) fun a b f => f
  exact ResN.step x₁.any e₁ r
theorem aio2 {f g : Value → Sem Unit} {a b : Value} : assignInOrder [f, g] [a, b] = (do holding [b] (f a); holding [] (g b); assignInOrder [] []) := rfl
theorem X1.assignT2 {x y : Str} {px py : Pos} {k : Nat} {tpos pos : Pos} {value : Expr} (hs : ∀ env, swapsWithSole [.Tuple [.Name x px, .Name y py] k tpos] value pos.line env = pure false)
    (hw : ∀ env, env.scope = sc → env.scope.kind = .function → swappedStores [.Tuple [.Name x px, .Name y py] k tpos] value env = pure (some [x, y])) (hx : sc.names.lookup x = some .local) (hy : sc.names.lookup y = some .local)
    (h : W C n sc value ρ st (fun p st' => ∃ a b, partsOf st' p [a, b] ∧ Qn (upd (upd ρ y b) x a) st')) : X1 C n sc (.Assign [.Tuple [.Name x px, .Name y py] k tpos] value pos) ρ st Qn Qr := by
  intro A env g ads s z
  refine PyProof.Rows.Assign_Tuple_swapped (names := [x, y]) (then_ h z fun v s₁ g₁ ads₁ p st₁ z₁ x₁ e₁ vr q => ?_) (hs env) (hw env z.sc z.fr.kind)
  obtain ⟨a, b, hp, q⟩ := q
  show wpAny _ A (unpackItems v ([a, b] : List PV).length none) _ _ s₁
  refine unpack_ok z.a.hh z₁.sim vr hp fun vs s' vrs nx sm e' => ?_
  cases vrs with
  | @cons va _ _ _ hva r => cases r with
    | @cons vb _ _ _ hvb r =>
      cases r
      have z₂ := z₁.next nx sm
      have i1 : ([x, y].reverse.map fun n => bindName env n) = [bindName env y, bindName env x] := by simp
      have i2 : [va, vb].reverse = [vb, va] := by simp
      rw [i1, i2, aio2]
      refine wpAny_bind (wpAny_holding (PyProof.Rows.bindName_ (store_ok z₂ (hvb.mono nx.gsub nx.idx) (.inl hy) fun s₃ nx₃ sm₃ fr₃ e₃ => ?_)))
      have z₃ : At0 C n sc (upd ρ y b) st₁ A env g₁ ads₁ s₃ := ⟨z.a, z.sc, z₁.base, fr₃, sm₃⟩
      refine wpAny_bind (wpAny_holding (PyProof.Rows.bindName_ (store_ok z₃ (hva.mono nx.gsub nx.idx) (.inl hx) fun s₄ nx₄ sm₄ fr₄ e₄ => ?_)))
      exact wpAny_pure ⟨g₁, ads₁, _, st₁, (((x₁.any).trans nx.any).trans nx₃).trans nx₄, sm₄, fr₄, q, by rw [e₄, e₃, e', e₁]⟩
end
/-! ## a dict's keys -/
noncomputable def StK (i₀ : Nat) (I d : Addr) (n ep : Nat) (i : Nat) (g : Fz) (ads : List Addr) (h : Heap) : Prop := h.IsKeyIter I d i n ep ∧ ads[i₀]? = some d ∧ I ∉ ads ∧ g I = none
theorem VRk.idx {g : Fz} {ads : List Addr} : ∀ {es : List (Str × Value)} {kvs : List (Str × PV)}, VRk g ads es kvs → ∀ {i : Nat} {k : Str}, (kvs.map (·.1))[i]? = some k → ∃ x, es[i]? = some (k, x) := by
  intro es kvs h i k e
  have := h.keys
  rw [← this] at e
  rw [List.getElem?_map] at e
  cases q : es[i]? with
  | none => rw [q] at e; cases e
  | some p => rw [q] at e; cases e; exact ⟨p.2, rfl⟩
theorem key_iter_there {h : Heap} {I l : Addr} {i n ep : Nat} (x : h.IsKeyIter I l i n ep) : ∃ o, h.get? I = some o := by obtain ⟨o, e, _⟩ := x; exact ⟨o, e⟩
theorem Wk.dict {C : Ctx0} {A : Around} {target : Expr} {I d : Addr} {i₀ ep : Nat} {kvs : List (Str × PV)} (hh : A.handled = none) :
    Wk C A target I [I] (kvs.map fun x => .str x.1) (fun st => st[i₀]? = some (.sd kvs ep)) (StK i₀ I d kvs.length ep) where
  frame := fun {i g ads h g' ads' h' own'} st x hn => by
    obtain ⟨⟨o, ho, hc, hd⟩, ha, n1, n2⟩ := st
    obtain ⟨m1, m2⟩ := x.off n1 n2 ho
    exact ⟨⟨o, x.keep _ _ n1 (hn I (.head _)) ho, hc, hd⟩, x.idx _ _ ha, m1, m2⟩
  live := fun {i g ads h} st b hb => by
    obtain ⟨⟨o, ho, hc, hd⟩, ha, n1, n2⟩ := st
    rw [List.mem_singleton.mp hb]; exact ⟨n1, n2, o, ho⟩
  item := fun {i g ads st s p} hst base z G hp => by
    obtain ⟨hit, ha, n1, n2⟩ := hst
    have or := z.ob i₀ d _ ha G
    cases or with
    | sd e r =>
      rw [List.getElem?_map] at hp
      cases q : kvs[i]? with
      | none => rw [q] at hp; cases hp
      | some kv =>
        rw [q] at hp
        cases hp
        obtain ⟨x, hx⟩ := r.idx (i := i) (k := kv.1) (by rw [List.getElem?_map, q]; rfl)
        rw [← r.length] at hit
        refine wpAny_pyNext_dict_item (knd := PySem.strKind C.prog C.w) hit e hx fun key h' hkey hit' hs => ⟨key, rfl, ?_⟩
        obtain ⟨o', ho'⟩ := key_iter_there hit'
        obtain ⟨nx, sm⟩ := sameBut_one z n1 n2 hs.extBut (by rw [ho']; rfl)
        have vr : VR g ads key (.str kv.1) := by
          have hk : key.isStrOf kv.1 = true := hkey
          cases key with
          | str y t =>
            have : y = kv.1 := by simpa [Value.isStrOf] using hk
            subst this; exact .str _ _
          | _ => simp [Value.isStrOf] at hk
        exact PyProof.Rows.letGo_keyiter hit' ⟨g, nx, sm, vr, ⟨by rw [← r.length]; exact hit', ha, n1, n2⟩, rfl⟩
  done := fun {g ads st s} hst z G => by
    obtain ⟨hit, ha, n1, n2⟩ := hst
    have or := z.ob i₀ d _ ha G
    cases or with
    | sd e r =>
      rw [List.length_map] at hit
      rw [← r.length] at hit
      exact wpAny_pyNext_dict_end (knd := PySem.strKind C.prog C.w) hh hit e (by simp) fun h' he => ⟨rfl, fun b o hb e => he b o (by simpa using hb) e, rfl⟩
  self := fun {i g ads s Q} st q => wpAny_pyIter_keyiter st.1 q

/-! ## a range -/
noncomputable def StR (I : Addr) (a : Int) (n : Nat) (i : Nat) (g : Fz) (ads : List Addr) (h : Heap) : Prop := IsRangeIter h I (a + (i : Nat) * 1) ((n : Int) - (i : Nat)) 1 ∧ I ∉ ads ∧ g I = none
theorem letGo_rangeiter {prog : Program} {w : World} {A : Around} {E : Value → Shared → Prop} {target : Expr} {I : Addr} {x l st : Int} {v : Value} {Q' : Unit → Shared → Prop} {s' : Shared} (hit : IsRangeIter s'.heap I x l st) (h : Q' () s') :
    wpAny (model prog w) A (letOwnedTupleGo target (.ref I) v) Q' E s' := by
  unfold letOwnedTupleGo
  cases target <;> first
    | exact wpAny_pure h
    | (cases v <;> first
        | exact wpAny_pure h
        | (refine wpAny_bind (wpAny_load hit ?_)
           exact wpAny_pure h))
theorem Wk.range {C : Ctx0} {A : Around} {target : Expr} {I : Addr} {a : Int} {n : Nat} (hh : A.handled = none) :
    Wk C A target I [I] ((List.range n).map fun (i : Nat) => .int (a + i)) (fun _ => True) (StR I a n) where
  frame := fun {i g ads h g' ads' h' own'} st x hn => by
    obtain ⟨ho, n1, n2⟩ := st
    obtain ⟨m1, m2⟩ := x.off n1 n2 ho
    exact ⟨x.keep _ _ n1 (hn I (.head _)) ho, m1, m2⟩
  live := fun {i g ads h} st b hb => by
    obtain ⟨ho, n1, n2⟩ := st
    rw [List.mem_singleton.mp hb]; exact ⟨n1, n2, _, ho⟩
  item := fun {i g ads st s p} hst base z G hp => by
    obtain ⟨hit, n1, n2⟩ := hst
    rw [List.getElem?_map] at hp
    have hlt : i < n := by
      cases q : (List.range n)[i]? with
      | none => rw [q] at hp; cases hp
      | some j =>
        have := (List.getElem?_eq_some_iff.mp q).1
        simpa using this
    rw [List.getElem?_range hlt] at hp
    cases hp
    refine wpAny_pyNext_range_item hit (by walk_at "om") fun h' hit' hs => ⟨_, rfl, ?_⟩
    obtain ⟨nx, sm⟩ := sameBut_one z n1 n2 hs.extBut (by rw [hit']; rfl)
    have hit'' : IsRangeIter h' I (a + ((i + 1 : Nat) : Int) * 1) ((n : Int) - ((i + 1 : Nat) : Int)) 1 := by
      have e1 : a + (i : Int) * 1 + 1 = a + ((i + 1 : Nat) : Int) * 1 := by walk_at "om"
      have e2 : (n : Int) - (i : Int) - 1 = (n : Int) - ((i + 1 : Nat) : Int) := by walk_at "om"
      rw [← e1, ← e2]; exact hit'
    refine letGo_rangeiter hit'' ⟨g, nx, sm, ?_, ⟨hit'', n1, n2⟩, rfl⟩
    have : (a + (i : Nat) * 1 : Int) = a + (i : Nat) := by walk_at "om"
    rw [this]; exact .int _ _
  done := fun {g ads st s} hst z G => by
    obtain ⟨hit, n1, n2⟩ := hst
    have hl : ((List.range n).map fun (i : Nat) => PV.int (a + i)).length = n := by simp
    rw [hl] at hit
    exact wpAny_pyNext_range_end hh hit (by walk_at "om") fun h' he => ⟨rfl, fun b o hb e => he b o (by simpa using hb) e, rfl⟩
  self := fun {i g ads s Q} st q => by
    obtain ⟨hit, _⟩ := st
    exact (Walks.range hh I a 1 n).self i s Q No hit q

section
variable {C : Ctx0} {n : Nat} {sc : Scope} {ρ : List (Str × PV)} {st : List PObj} {Qn : PostN} {Qr : Post}

theorem WI.dict {target e : Expr} {Q : List PV → (List PObj → Prop) → List PObj → Prop} (h : W C n sc e ρ st (fun p st₁ => ∃ i kvs ep, p = .loc i ∧ st₁[i]? = some (.sd kvs ep) ∧ Q (kvs.map fun x => .str x.1) (fun st => st[i]? = some (.sd kvs ep)) st₁)) : WI C n sc target e ρ st Q := by
  intro A env g ads s z
  refine then_ h z fun v s₁ g₁ ads₁ p st₁ z₁ x₁ e₁ vr q => ?_
  obtain ⟨i, kvs, ep, rfl, hi, q⟩ := q
  obtain ⟨a, rfl, ha, o⟩ := z₁.sim.ref vr hi
  cases o with
  | @sd kvs' _ _ e r =>
    refine wpAny_pyIter_dict (not_modules (z₁.sim.hi a (List.mem_of_getElem? ha))) e ?_
    obtain ⟨nx, sm⟩ := hidden z₁.sim { cls := .type "dict_keyiterator", data := .fields #[.ref a, .int 0 0, .int kvs'.length 0, .int ep 0] }
    refine ⟨_, _, _, _, _, g₁, ads₁, st₁, rfl, Wk.dict (I := s₁.heap.objs.size) (d := a) (i₀ := i) (ep := ep) (kvs := kvs) z.a.hh, x₁.trans nx, sm, ⟨⟨_, Heap.get?_push_size _ rfl, rfl, ?_⟩, ha, z₁.sim.ads_fresh fresh_none, z₁.sim.gfresh fresh_none⟩,
      fun b hb => (by rw [List.mem_singleton.mp hb]; exact x₁.none fresh_none), q, by rw [e₁]⟩
    rw [r.length]; rfl

theorem WI.range2 {target : Expr} {x : Str} {px pos : Pos} {ea eb : Expr} {Q : List PV → (List PObj → Prop) → List PObj → Prop} (hk : sc.names.lookup x = some .globalImplicit) (hx : nsIn (hd.heap_1 C.w.params) mainGlobals x = some none)
    (hv : bootBuiltins x = some (.type "range")) (hn : x ≠ "__name__") (hd : (x == ("__debug__" : Str)) = false)
    (he : ∀ env, eval (.Call (.Name x px) [ea, eb] [] pos) env = (do callWith pos (← eval (.Name x px) env) [] (backTo pos (starEach [ea, eb] env)) (backToKw pos (keywordEach [] env))))
    (hs : ∀ env, starEach [ea, eb] env = (false, eval ea env) :: starEach [eb] env) (hp : ∀ env, (backTo pos (starEach [eb] env)).any (·.1) = false)
    (h : Ws C n sc [ea, eb] ρ st (fun ps st₁ => ∃ a n, ps = [.int a, .int (a + (n : Nat))] ∧ n < 1000000 ∧ -1000000 < a ∧ a < 1000000 ∧ Q ((List.range n).map fun (i : Nat) => .int (a + i)) (fun _ => True) st₁)) :
    WI C n sc target (.Call (.Name x px) [ea, eb] [] pos) ρ st Q := by
  intro A env g ads s z
  refine Call_ (evalBuiltin z hk hx hv hn hd ?_) (he env)
  refine PyProof.Rows.callWith_type1 (Ws.run h z fun vs s₁ g₁ ads₁ ps st₁ z₁ x₁ e₁ vrs q => ?_) (hs env) (hp env)
  obtain ⟨a, m, rfl, hm, ha, ha', q⟩ := q
  cases vrs with
  | @cons va _ _ _ hva r => cases r with
    | @cons vb _ _ _ hvb r =>
      cases r; cases hva with | int _ t => cases hvb with | int _ u =>
      refine call_range_2 ?_
      have hr := IsRange.new s₁.heap a (a + (m : Nat)) 1 t u s₁.toks
      obtain ⟨nx, sm⟩ := hidden z₁.sim { cls := .type "range", data := .fields #[.int a t, .int (a + (m : Nat)) u, .int 1 s₁.toks] }
      refine wpAny_pyIter_range hr (small_one (by walk_at "om") (by walk_at "om") (by walk_at "om") (by walk_at "om")) ?_
      have hsz : Builtin.Range.rangeSize a (a + (m : Nat)) 1 = (m : Int) := by rw [rangeSize_one]; split <;> omega
      rw [hsz]
      obtain ⟨nx2, sm2⟩ := hidden (h := s₁.heap.push { cls := .type "range", data := .fields #[.int a t, .int (a + (m : Nat)) u, .int 1 s₁.toks] }) sm { cls := .type "range_iterator", data := .fields #[rawInt a, rawInt (m : Int), rawInt 1] }
      have fr : (s₁.heap.push { cls := .type "range", data := .fields #[.int a t, .int (a + (m : Nat)) u, .int 1 s₁.toks] }).get? (s₁.heap.push { cls := .type "range", data := .fields #[.int a t, .int (a + (m : Nat)) u, .int 1 s₁.toks] }).objs.size = none := fresh_none
      refine ⟨_, _, _, _, _, g₁, ads₁, st₁, rfl, Wk.range (a := a) (n := m) z.a.hh, (x₁.trans nx).trans nx2, sm2, ⟨?_, sm.ads_fresh fr, sm.gfresh fr⟩,
        fun b hb => (by rw [List.mem_singleton.mp hb]; exact (x₁.trans nx).none fr), q, by rw [e₁]⟩
      have := Heap.get?_push_size (s₁.heap.push { cls := .type "range", data := .fields #[.int a t, .int (a + (m : Nat)) u, .int 1 s₁.toks] }) (o := { cls := .type "range_iterator", data := .fields #[rawInt a, rawInt (m : Int), rawInt 1] }) rfl
      have e1 : a + ((0 : Nat) : Int) * 1 = a := by walk_at "om"
      have e2 : (m : Int) - ((0 : Nat) : Int) = m := by walk_at "om"
      rw [e1, e2]
      exact this

/-! ## while -/
inductive WhileAt (C : Ctx0) (n : Nat) (sc : Scope) (A : Around) (env : Env) (g : Fz) (ads : List Addr) (s : Shared) (I : Nat → List (Str × PV) → List PObj → Prop) (k : Nat) (s' : Shared) : Prop
  | mk (g' : Fz) (ads' : List Addr) (ρ' : List (Str × PV)) (st' : List PObj) (nx : Nx (ownOf env) g ads s.heap g' ads' s'.heap) (z : At0 C n sc ρ' st' A env g' ads' s') (q : I k ρ' st') (e : s' = { s with heap := s'.heap, toks := s'.toks })
theorem X1.while_ {t : Expr} {body : List Stmt} {pos : Pos} (I : Nat → List (Str × PV) → List PObj → Prop) (k₀ : Nat) (h0 : I k₀ ρ st)
    (turn : ∀ k ρ' st', I k ρ' st' → T C n sc t ρ' st' (fun b st₁ => (b = true → X C n sc body ρ' st₁ (fun ρ₂ st₂ => ∃ m, m < k ∧ I m ρ₂ st₂) Qr) ∧ (b = false → Qn ρ' st₁))) : X1 C n sc (.While t body [] pos) ρ st Qn Qr := by
  intro A env g ads s z
  refine wpAny_While (codeAny_whileLoop (WhileAt C n sc A env g ads s I) ?_ k₀ ⟨g, ads, ρ, st, Nx.refl _ _ _ _, z, h0, rfl⟩)
  rintro k s' ⟨g', ads', ρ', st', nx, z', hI, e'⟩
  refine wpAny_mono (T.run (turn k ρ' st' hI) z' fun b s₁ g₁ ads₁ st₁ z₁ nx₁ e₁ q => ?_) (fun a b y => y) fun a b f => f.elim
  cases b with
  | true =>
    rw [if_pos rfl]
    refine wpAny_mono (q.1 rfl A env g₁ ads₁ s₁ z₁) (fun fl s₂ r => ?_) fun a b f => f.elim
    have e1 : s₁ = { s with heap := s₁.heap, toks := s₁.toks } := by rw [e₁, e']
    have n1 := nx.trans nx₁.any
    cases fl with
    | next =>
      obtain ⟨g₂, ads₂, ρ₂, st₂, nx₂, sm₂, fr₂, ⟨m, hm, hI₂⟩, e₂⟩ := r
      exact ⟨m, hm, g₂, ads₂, ρ₂, st₂, n1.trans nx₂, ⟨z'.a, z'.sc, fun b o e => nx₂.gsub _ _ (z₁.base _ _ e), fr₂, sm₂⟩, hI₂, by rw [e₂, e1]⟩
    | ret v => exact Res.step n1 e1 r
    | brk => exact r.elim
    | cont => exact r.elim
  | false =>
    rw [if_neg (by simp)]
    exact wpAny_execs_nil ⟨g₁, ads₁, ρ', st₁, nx.trans nx₁.any, z₁.sim, z₁.fr, q.2 rfl, by rw [e₁, e']⟩
end
section
variable {prog : Program} {w : World} {A : Around} {E : Value → Shared → Prop} {s : Shared}

theorem nextOf_tuple_item {it l : Addr} {i : Nat} {items} {x : Value} {Q : Value → Shared → Prop} (hit : s.heap.IsTupleIter it l i)
    (hl : s.heap.IsTuple l items) (hx : items[i]? = some x)
    (hQ : ∀ h', h'.IsTupleIter it l (i + 1) → Heap.SameBut it s.heap h' → Q x { s with heap := h' }) :
    wpAny (model prog w) A (Builtin.SmallTypes.nextOf (.ref it)) Q E s := by
  obtain ⟨o, ho, hc, hd⟩ := id hit
  obtain ⟨ol, hol, _, nl, hdl⟩ := hl
  unfold Builtin.SmallTypes.nextOf
  refine wpAny_bind (wpAny_callSpecial?_slot (name := Str.ofString "__next__") hit.typeIs F.slot_tuple_iterator_next
    (wpAny_call_entry F.slot_tuple_iterator_next hit.typeIs F.entry_tuple_iterator_next ?_ (F.args_tuple_iterator_next_1 _)))
  show wpAny _ _ (field (.ref it) 0 >>= _) _ _ s
  refine wpAny_bind (wpAny_field ho hd (x := .ref l) rfl ?_)
  show wpAny _ _ (if (Value.ref l == Value.none) = true then _ else _) _ _ s
  rw [if_neg (show ¬ ((Value.ref l == Value.none) = true) from Bool.false_ne_true)]
  show wpAny _ _ (field (.ref it) 1 >>= _) _ _ s
  refine wpAny_bind (wpAny_field ho hd (x := .int i 0) rfl ?_)
  show wpAny _ _ (seqItems? (.ref l) >>= _) _ _ s
  refine wpAny_bind (wpAny_seqItems hol hdl ?_)
  simp only [Int.toNat_natCast, hx]
  refine wpAny_bind (wpAny_setField ho hd (by simp) (wpAny_pure ⟨x, rfl, wpAny_pure (hQ _ ?_ (Heap.SameBut.update ..))⟩))
  exact ⟨_, Heap.get?_update_self _ ho (Obj.isFreed_of_fields (Obj.data_mapFields hd _)), (Obj.cls_mapFields ..).trans hc, by
    rw [Obj.data_mapFields hd]; simp [rawInt]⟩
theorem nextOf_tuple_end {it l : Addr} {i : Nat} {items} {Q : Value → Shared → Prop} (hh : A.handled = none)
    (hit : s.heap.IsTupleIter it l i) (hl : s.heap.IsTuple l items) (hx : items[i]? = none)
    (hE : ∀ h' e, Heap.ExtBut it s.heap h' → (∃ o, h'.get? e = some o ∧ o.cls = .type "StopIteration") → E (.ref e) { s with heap := h' }) :
    wpAny (model prog w) A (Builtin.SmallTypes.nextOf (.ref it)) Q E s := by
  obtain ⟨o, ho, hc, hd⟩ := id hit
  obtain ⟨ol, hol, _, nl, hdl⟩ := hl
  unfold Builtin.SmallTypes.nextOf
  refine wpAny_bind (wpAny_callSpecial?_slot (name := Str.ofString "__next__") hit.typeIs F.slot_tuple_iterator_next
    (wpAny_call_entry F.slot_tuple_iterator_next hit.typeIs F.entry_tuple_iterator_next ?_ (F.args_tuple_iterator_next_1 _)))
  show wpAny _ _ (field (.ref it) 0 >>= _) _ _ s
  refine wpAny_bind (wpAny_field ho hd (x := .ref l) rfl ?_)
  show wpAny _ _ (if (Value.ref l == Value.none) = true then _ else _) _ _ s
  rw [if_neg (show ¬ ((Value.ref l == Value.none) = true) from Bool.false_ne_true)]
  show wpAny _ _ (field (.ref it) 1 >>= _) _ _ s
  refine wpAny_bind (wpAny_field ho hd (x := .int i 0) rfl ?_)
  show wpAny _ _ (seqItems? (.ref l) >>= _) _ _ s
  refine wpAny_bind (wpAny_seqItems hol hdl ?_)
  simp only [Int.toNat_natCast, hx]
  refine wpAny_bind (wpAny_rule (wpAny_bind (wpAny_setField ho hd (by simp) ?_)))
  show wpAny _ _ (newExc (.type "StopIteration") [] >>= _) _ _ _
  refine wpAny_bind ?_
  simp only [newExc, newTuple]
  refine wpAny_bind (wpAny_newObj_type ?_ (by size_fits))
  refine wpAny_bind (m := firstArgMember _ _) (wpAny_of_eq (a := Value.none) (by first | rfl | (simp only [firstArgMember]; rfl)) ?_)
  refine wpAny_newObj_type ?_ (by size_fits)
  simp only [raiseNew]
  refine wpAny_bind (wpAny_handled ?_)
  first | rw [show A.in1.handled = none from hh] | rw [hh]
  refine wpAny_bind (wpAny_pure (wpAny_throw ?_))
  exact hE _ _ (((Heap.SameBut.update ..).extBut.push _).push _) ⟨_, Heap.get?_push_size _ rfl, rfl⟩
end

theorem tupIter_at {h h' : Heap} {a t : Addr} {i : Nat} (x : h.IsTupleIter a t i) (e : ∀ o, h.get? a = some o → h'.get? a = some o) : h'.IsTupleIter a t i := let ⟨o, ho, r⟩ := x; ⟨o, e _ ho, r⟩
theorem tup_at {h h' : Heap} {a : Addr} {items : Array Value} (x : h.IsTuple a items) (e : ∀ o, h.get? a = some o → h'.get? a = some o) : h'.IsTuple a items := let ⟨o, ho, r⟩ := x; ⟨o, e _ ho, r⟩

theorem drawsTup {prog : Program} {w : World} {A : Around} (hh : A.handled = none) (it l : Addr) (hne : l ≠ it) (items : Array Value) :
    Draws prog w A it [it, l] items.size (fun i v => items[i]? = some v) (fun i h => h.IsTupleIter it l i ∧ h.IsTuple l items) where
  live := fun _ _ st => let ⟨o, ho, _⟩ := st.1; ⟨o, ho⟩
  frame := fun _ _ _ st hk => ⟨tupIter_at st.1 fun o e => hk it (by simp) o e, tup_at st.2 fun o e => hk l (by simp) o e⟩
  item := fun i s Q E hi st hQ => by
    refine nextOf_tuple_item st.1 st.2 (x := items[i]) (by simp [hi]) fun h' hit' hs' => ?_
    exact hQ _ h' s.toks (by simp [hi]) ⟨hit', st.2.extBut hs'.extBut hne⟩ hs'
  done := fun s Q E st hE => nextOf_tuple_end hh st.1 st.2 (by simp) hE

theorem step_frozen {P : PW} {own : List Addr} {g : Fz} {ads : List Addr} {st : List PObj} {h h' : Heap} {T : Addr} {o : Obj} (z : Sim P g ads st h) (fT : h.get? T = none) (eT : h'.get? T = some o) (ext : ∀ b o, b ∉ own → h.get? b = some o → h'.get? b = some o)
    (no : ∀ b ∈ own, b ∉ ads ∧ g b = none ∧ (h'.get? b).isSome = true) : Nx own g ads h (setF g T o) ads h' ∧ Sim P (setF g T o) ads st h' := by
  have gn : g T = none := z.gfresh fT
  have gs : ∀ a o', g a = some o' → setF g T o a = some o' := fun a o' e => by
    unfold setF
    rw [if_neg (fun q => by rw [q, gn] at e; cases e)]
    exact e
  have keepZ : ∀ b o, (b ∈ ads ∨ g b ≠ none) → h.get? b = some o → h'.get? b = some o := fun b o hb e => ext b o (fun hm => by
    obtain ⟨m1, m2, _⟩ := no b hm
    rcases hb with hb | hb
    · exact m1 hb
    · exact hb m2) e
  have z' := z.ext keepZ
  refine ⟨⟨gs, ⟨[], by simp⟩, fun b o' _ n e => ext b o' n e, fun a n o' e => ?_, fun a m n => absurd m n, fun b e => ?_⟩, ⟨fun a o' e => ?_, z.nd, fun a ha => ?_, z.hi, z.len, fun n a po ha hp => ?_⟩⟩
  · unfold setF at e
    split at e
    · rename_i q; rw [q]; exact fT
    · rw [n] at e; cases e
  · obtain ⟨o', ho'⟩ := Option.isSome_iff_exists.mp e
    by_cases hm : b ∈ own
    · exact (no b hm).2.2
    · rw [ext b o' hm ho']; rfl
  · unfold setF at e
    split at e
    · rename_i q; cases e; rw [q]; exact eT
    · exact z'.gh _ _ e
  · unfold setF
    rw [if_neg (fun (q : a = T) => z.ads_fresh fT (q ▸ ha))]
    exact z.ag a ha
  · exact (z'.ob n a po ha hp).mono gs (fun a b e => e) fun o' e => e

/-! ## enumerate -/
noncomputable def numbered : Nat → List PV → List PV
  | _, [] => []
  | i, p :: ps => .tup [.int i, p] :: numbered (i + 1) ps
theorem numbered_get : ∀ (ps : List PV) (k i : Nat), (numbered k ps)[i]? = (ps[i]?).map fun p => .tup [.int ((k + i : Nat) : Int), p]
  | [], _, _ => rfl
  | p :: ps, k, 0 => by simp [numbered]
  | p :: ps, k, i + 1 => by
    unfold numbered
    rw [List.getElem?_cons_succ, List.getElem?_cons_succ, numbered_get ps (k + 1) i]
    have : k + 1 + i = k + (i + 1) := by walk_at "om"
    rw [this]
theorem numbered_length : ∀ (ps : List PV) (k : Nat), (numbered k ps).length = ps.length
  | [], _ => rfl
  | p :: ps, k => by unfold numbered; rw [List.length_cons, List.length_cons, numbered_length]

noncomputable def StE (vs : List Value) (l : List PV) (e it t : Addr) (i : Nat) (g : Fz) (ads : List Addr) (h : Heap) : Prop :=
  (∃ old, IsEnum h e it i old) ∧ h.IsTupleIter it t i ∧ (∃ n, g t = some { cls := .type "tuple", data := .seq vs.toArray n }) ∧ VRs g ads vs l ∧ (∀ b ∈ [e, it], b ∉ ads ∧ g b = none)
theorem Wk.enum {C : Ctx0} {A : Around} {elts : List Expr} {k : Nat} {pos : Pos} {e it t : Addr} {vs : List Value} {ps : List PV} (hh : A.handled = none) (hei : e ≠ it) (het : e ≠ t) (hit : it ≠ t) :
    Wk C A (.Tuple elts k pos) e [e, it] (numbered 0 ps) (fun _ => True) (StE vs ps e it t) where
  frame := fun {i g ads h g' ads' h' own'} st x hn => by
    obtain ⟨⟨old, he⟩, hi, ⟨n, ha⟩, r, no⟩ := st
    obtain ⟨n1, n2⟩ := no e (.head _)
    obtain ⟨m1, m2⟩ := no it (.tail _ (.head _))
    obtain ⟨oi, hoi⟩ := tuple_iter_there hi
    refine ⟨⟨old, x.keep _ _ n1 (hn e (.head _)) he⟩, tupIter_at hi fun o e => x.keep _ _ m1 (hn it (.tail _ (.head _))) e, ⟨n, x.gsub _ _ ha⟩, r.mono x.gsub x.idx, fun b hb => ?_⟩
    rcases List.mem_cons.mp hb with rfl | hb
    · exact x.off n1 n2 he
    · rw [List.mem_singleton.mp hb]; exact x.off m1 m2 hoi
  live := fun {i g ads h} st b hb => by
    obtain ⟨⟨old, he⟩, hi, ⟨n, ha⟩, r, no⟩ := st
    obtain ⟨oi, hoi⟩ := tuple_iter_there hi
    obtain ⟨n1, n2⟩ := no b hb
    rcases List.mem_cons.mp hb with rfl | hb
    · exact ⟨n1, n2, _, he⟩
    · rw [List.mem_singleton.mp hb] at n1 n2 ⊢; exact ⟨n1, n2, oi, hoi⟩
  item := fun {i g ads st s p} hst base z G hp => by
    obtain ⟨⟨old, he⟩, hi, ⟨n, ha⟩, r, no⟩ := hst
    rw [numbered_get] at hp
    cases q : ps[i]? with
    | none => rw [q] at hp; cases hp
    | some p' =>
      rw [q] at hp
      cases hp
      obtain ⟨v, hv, vr⟩ := r.get q
      have hlt : i < vs.toArray.size := by rw [List.size_toArray]; exact (List.getElem?_eq_some_iff.mp hv).1
      refine wpAny_pyNext_enum_itemD (drawsTup (A := A.in1) hh it t (Ne.symm hit) vs.toArray) he ⟨hi, ⟨_, z.gh _ _ ha, rfl, _, rfl⟩⟩ hlt hei (by simp [hei, het]) fun x h' tk hx ho hst' hT hsz hk => ⟨_, rfl, ?_⟩
      have hxv : x = v := by
        have h1 : vs[i]? = some x := by simpa using hx
        rw [hv] at h1; cases h1; rfl
      subst hxv
      refine wpAny_letOwnedTupleGo_enum ho fun h'' he'' hs'' => ?_
      have helt : e < s.heap.objs.size := Heap.lt_size he
      have ext : ∀ b o, b ∉ [e, it] → s.heap.get? b = some o → h''.get? b = some o := fun b o hb e' => by
        have b1 : b ≠ e := fun q => hb (by rw [q]; exact .head _)
        have b2 : b ≠ it := fun q => hb (by rw [q]; exact .tail _ (.head _))
        exact hs''.extBut b o b1 (hk b o b1 b2 e')
      have hT' : h''.get? s.heap.objs.size = some { cls := .type "tuple", data := .seq #[.int i tk, x] } := hs''.extBut _ _ (Nat.ne_of_gt helt) hT
      obtain ⟨oi, hoi⟩ := tuple_iter_there hst'.1
      have hoi' : h''.get? it = some oi := hs''.extBut _ _ (Ne.symm hei) hoi
      obtain ⟨nx, sm⟩ := step_frozen (own := [e, it]) z fresh_none hT' ext fun b hb => ⟨(no b hb).1, (no b hb).2, by
        rcases List.mem_cons.mp hb with rfl | hb
        · rw [he'']; rfl
        · rw [List.mem_singleton.mp hb, hoi']; rfl⟩
      refine ⟨_, nx, sm, .tup (n := 0) (vs := [.int i tk, x]) ?_ (.cons ?_ (.cons (vr.mono nx.gsub nx.idx) .nil)), ⟨⟨_, by simpa using he''⟩, tupIter_at hst'.1 fun o e => hs''.extBut _ _ (Ne.symm hei) e, ⟨n, nx.gsub _ _ ha⟩, r.mono nx.gsub nx.idx, fun b hb => ⟨(no b hb).1, ?_⟩⟩, rfl⟩
      · show setF g s.heap.objs.size _ s.heap.objs.size = _
        unfold setF; rw [if_pos rfl]
      · have : ((0 + i : Nat) : Int) = (i : Int) := by simp
        rw [this]; exact .int _ _
      · unfold setF
        rw [if_neg]
        · exact (no b hb).2
        · intro q
          have : (h''.get? b).isSome = true ∧ s.heap.get? b ≠ none := by
            rcases List.mem_cons.mp hb with r | hb
            · exact ⟨by rw [r, he'']; rfl, by rw [r, he]; simp⟩
            · rw [List.mem_singleton.mp hb]
              obtain ⟨o3, ho3⟩ := tuple_iter_there hi
              exact ⟨by rw [hoi']; rfl, by rw [ho3]; simp⟩
          exact this.2 (by rw [q]; exact fresh_none)
  done := fun {g ads st s} hst z G => by
    obtain ⟨⟨old, he⟩, hi, ⟨n, ha⟩, r, no⟩ := hst
    have hl : (numbered 0 ps).length = vs.toArray.size := by rw [numbered_length, List.size_toArray, r.length]
    rw [hl] at hi
    exact wpAny_pyNext_enum_endD (drawsTup (A := A.in1) hh it t (Ne.symm hit) vs.toArray) he ⟨hi, ⟨_, z.gh _ _ ha, rfl, _, rfl⟩⟩ fun h' hx => ⟨rfl, fun b o hb e => hx b o (fun q => hb (by rw [q]; exact .tail _ (.head _))) e, rfl⟩
  self := fun {i g ads s Q} st q => by
    obtain ⟨⟨old, he⟩, _⟩ := st
    exact wpAny_pyIter_enum he q

theorem meets_enumerate_newTup (l : Addr) (items : Array Value) (n : Nat) :
    Meets (Builtin.«enumerate.__new__» ⟨[.type "enumerate", .ref l], []⟩) (fun _ R s => s.heap.get? l = some { cls := .type "tuple", data := .seq items n } ∧
      R (.ok (.ret (.ref (s.heap.push { cls := .type "tuple_iterator", data := .fields #[.ref l, .int 0 0] }).objs.size)))
        { s with heap := (s.heap.push { cls := .type "tuple_iterator", data := .fields #[.ref l, .int 0 0] }).push { cls := .type "enumerate", data := .fields #[.none, .bool false, .ref s.heap.objs.size, rawInt 0, .none, .none] } }) :=
  .of_wp fun prog w A R s h => by
    obtain ⟨hp, g, d, tk, os⟩ := s; obtain ⟨hl, h⟩ := h
    have hsub := sub_enumerate
    have hL : Heap.IsTuple (Shared.heap ⟨hp, g, d, tk, os⟩) l items := ⟨_, hl, rfl, n, rfl⟩
    wp_walk using AutoSeq1.wpAny_loadPart' hl
    refine wpAny_stack_any fun st => wpAny_pure ?_
    split
    · rename_i c _ _ _ _ _
      cases (c == Value.type "enumerate")
      · wp_walk using AutoSeq1.wpAny_loadPart' hl, wpAny_pyIter_tuple hL
        exact ⟨_, rfl, h⟩
      · wp_walk using AutoSeq1.wpAny_loadPart' hl, wpAny_pyIter_tuple hL
        exact ⟨_, rfl, h⟩
    · wp_walk using AutoSeq1.wpAny_loadPart' hl, wpAny_pyIter_tuple hL
      exact ⟨_, rfl, h⟩

section
variable {C : Ctx0} {n : Nat} {sc : Scope} {ρ : List (Str × PV)} {st : List PObj} {Qn : PostN} {Qr : Post}
theorem WI.enum {elts : List Expr} {k : Nat} {tpos : Pos} {x : Str} {px pos : Pos} {ea : Expr} {Q : List PV → (List PObj → Prop) → List PObj → Prop} (hk : sc.names.lookup x = some .globalImplicit) (hx : nsIn (hd.heap_1 C.w.params) mainGlobals x = some none)
    (hv : bootBuiltins x = some (.type "enumerate")) (hn : x ≠ "__name__") (hd : (x == ("__debug__" : Str)) = false)
    (he : ∀ env, eval (.Call (.Name x px) [ea] [] pos) env = (do callWith pos (← eval (.Name x px) env) [] (backTo pos (starEach [ea] env)) (backToKw pos (keywordEach [] env))))
    (hs : ∀ env, starEach [ea] env = (false, eval ea env) :: starEach [] env) (hp : ∀ env, (backTo pos (starEach [] env)).any (·.1) = false)
    (h : Ws C n sc [ea] ρ st (fun ps st₁ => ∃ l, ps = [.tup l] ∧ Q (numbered 0 l) (fun _ => True) st₁)) :
    WI C n sc (.Tuple elts k tpos) (.Call (.Name x px) [ea] [] pos) ρ st Q := by
  intro A env g ads s z
  refine Call_ (evalBuiltin z hk hx hv hn hd ?_) (he env)
  refine PyProof.Rows.callWith_type1 (Ws.run h z fun vs s₁ g₁ ads₁ ps st₁ z₁ x₁ e₁ vrs q => ?_) (hs env) (hp env)
  obtain ⟨l, rfl, q⟩ := q
  cases vrs with
  | @cons va _ _ _ hva r =>
    cases r
    cases hva with
    | @tup a us m _ ga r =>
      have gh := z₁.sim.gh _ _ ga
      have hz : (s₁.heap.push { cls := .type "tuple_iterator", data := .fields #[.ref a, .int 0 0] }).objs.size = s₁.heap.objs.size + 1 := Heap.size_push ..
      have lta : a < s₁.heap.objs.size := Heap.lt_size gh
      refine callType_new F.called_enumerate (by decide) (F.typeCall_enumerate_1 _) (F.newCall_enumerate_1 _) (fun obj => F.args_object_init_2 obj _) F.entry_enumerate_new
        (meets_enumerate_newTup a us.toArray m) ⟨gh, ?_⟩
      show _ ∧ _
      rw [hz]
      obtain ⟨nx1, sm1⟩ := hidden z₁.sim { cls := .type "tuple_iterator", data := .fields #[.ref a, .int 0 0] }
      have f1 : (s₁.heap.push { cls := .type "tuple_iterator", data := .fields #[.ref a, .int 0 0] }).get? (s₁.heap.objs.size + 1) = none := by rw [← hz]; exact fresh_none
      obtain ⟨nx2, sm2⟩ := hidden sm1 { cls := .type "enumerate", data := .fields #[.none, .bool false, .ref s₁.heap.objs.size, rawInt 0, .none, .none] }
      have he' : IsEnum ((s₁.heap.push { cls := .type "tuple_iterator", data := .fields #[.ref a, .int 0 0] }).push
          { cls := .type "enumerate", data := .fields #[.none, .bool false, .ref s₁.heap.objs.size, rawInt 0, .none, .none] }) (s₁.heap.objs.size + 1) s₁.heap.objs.size 0 .none := by
        have := Heap.get?_push_size (s₁.heap.push { cls := .type "tuple_iterator", data := .fields #[.ref a, .int 0 0] })
          (o := { cls := .type "enumerate", data := .fields #[.none, .bool false, .ref s₁.heap.objs.size, rawInt 0, .none, .none] }) rfl
        rw [hz] at this; exact this
      refine ⟨⟨_, he', rfl⟩, wpAny_pyIter_enum he' ?_⟩
      refine ⟨_, _, _, _, _, g₁, ads₁, st₁, rfl, Wk.enum (e := s₁.heap.objs.size + 1) (it := s₁.heap.objs.size) (t := a) (vs := us) (ps := l) z.a.hh (Nat.succ_ne_self _) (Nat.ne_of_gt (Nat.lt_succ_of_lt lta)) (Nat.ne_of_gt lta), (x₁.trans nx1).trans nx2, sm2, ?_, ?_, q, by rw [e₁]⟩
      · refine ⟨⟨_, he'⟩, ⟨_, Heap.get?_push_of_some _ (Heap.get?_push_size _ rfl), rfl, rfl⟩, ⟨m, ga⟩, r, fun b hb => ?_⟩
        rcases List.mem_cons.mp hb with rfl | hb
        · exact ⟨sm1.ads_fresh f1, sm1.gfresh f1⟩
        · rw [List.mem_singleton.mp hb]; exact ⟨z₁.sim.ads_fresh fresh_none, z₁.sim.gfresh fresh_none⟩
      · intro b hb
        rcases List.mem_cons.mp hb with rfl | hb
        · exact (x₁.trans nx1).none f1
        · rw [List.mem_singleton.mp hb]; exact x₁.none fresh_none
end
/-- the pieces of a zip of two tuples: all lie apart -/
structure ZA (z TI TO i1 i2 l1 l2 : Addr) : Prop where
  nd : [z, TI, TO, i1, i2].Nodup
  n1 : l1 ∉ [z, TI, TO, i1, i2]
  n2 : l2 ∉ [z, TI, TO, i1, i2]
structure ZS (z TI TO i1 i2 l1 l2 : Addr) (xs ys : Array Value) (f0 : Value) (k1 k2 : Nat) (h : Heap) : Prop where
  hz : IsZip h z TI TO f0
  hTI : IsPair h TI (.ref i1) (.ref i2)
  hTO : ∃ a b, IsPair h TO a b
  h1 : h.IsTupleIter i1 l1 k1
  h2 : h.IsTupleIter i2 l2 k2
  t1 : h.IsTuple l1 xs
  t2 : h.IsTuple l2 ys

section
variable {prog : Program} {w : World} {A : Around} {E : Value → Shared → Prop} {s : Shared}
variable {z TI TO i1 i2 l1 l2 : Addr} {k : Nat} {xs ys : Array Value} {x y : Value}

theorem ZA.ne (D : ZA z TI TO i1 i2 l1 l2) : TI ≠ z ∧ TO ≠ z ∧ i1 ≠ z ∧ i2 ≠ z ∧ TI ≠ TO ∧ TI ≠ i1 ∧ TI ≠ i2 ∧ TO ≠ i1 ∧ TO ≠ i2 ∧ i1 ≠ i2 := by
  have := D.nd
  simp only [List.nodup_cons, List.mem_cons, List.not_mem_nil, or_false, not_or] at this
  obtain ⟨⟨a1, a2, a3, a4⟩, ⟨b1, b2, b3⟩, ⟨c1, c2⟩, d1, _⟩ := this
  exact ⟨Ne.symm a1, Ne.symm a2, Ne.symm a3, Ne.symm a4, b1, b2, b3, c1, c2, d1⟩
theorem ZA.l (D : ZA z TI TO i1 i2 l1 l2) : (l1 ≠ z ∧ l1 ≠ TO ∧ l1 ≠ i1 ∧ l1 ≠ i2) ∧ (l2 ≠ z ∧ l2 ≠ TO ∧ l2 ≠ i1 ∧ l2 ≠ i2) := by
  have h1 := D.n1
  have h2 := D.n2
  simp only [List.mem_cons, List.not_mem_nil, or_false, not_or] at h1 h2
  exact ⟨⟨h1.1, h1.2.2.1, h1.2.2.2.1, h1.2.2.2.2⟩, ⟨h2.1, h2.2.2.1, h2.2.2.2.1, h2.2.2.2.2⟩⟩

theorem zipT_item {Q : Value → Shared → Prop} (D : ZA z TI TO i1 i2 l1 l2) (S : ZS z TI TO i1 i2 l1 l2 xs ys .none k k s.heap) (hx : xs[k]? = some x) (hy : ys[k]? = some y)
    (hQ : ∀ h', ZS z TI TO i1 i2 l1 l2 xs ys (rawInt s.heap.objs.size) (k + 1) (k + 1) h' → IsPair h' s.heap.objs.size x y →
      (∀ c o, c ≠ z → c ≠ TO → c ≠ i1 → c ≠ i2 → s.heap.get? c = some o → h'.get? c = some o) → Q (.ref s.heap.objs.size) { s with heap := h' }) :
    wpAny (model prog w) A (Builtin.«zip.__next__» ⟨[.ref z], []⟩) (fun fin s' => ∃ v, fin = .done (.ret v) ∧ Q v s') E s := by
  obtain ⟨TIz, TOz, i1z, i2z, TITO, TIi1, TIi2, TOi1, TOi2, i12⟩ := D.ne
  obtain ⟨⟨l1z, l1TO, l1i1, l1i2⟩, l2z, l2TO, l2i1, l2i2⟩ := D.l
  obtain ⟨hz, hTI, ⟨a, b, hTO⟩, h1, h2, hl1, hl2⟩ := S
  show wpAny _ _ (field (.ref z) 2 >>= _) _ _ _
  refine wpAny_bind (wpAny_field hz rfl (x := .bool false) rfl ?_)
  show wpAny _ _ (field (.ref z) 3 >>= _) _ _ _
  refine wpAny_bind (wpAny_field hz rfl (x := .ref TI) rfl ?_)
  refine wpAny_bind (wpAny_seqItems hTI rfl ?_)
  show wpAny _ _ (Builtin.SmallTypes.ownedTupleIsFree (.ref z) >>= _) _ _ _
  refine wpAny_bind ?_
  unfold Builtin.SmallTypes.ownedTupleIsFree
  refine wpAny_bind (wpAny_field hz rfl (x := .none) rfl (wpAny_pure ?_))
  simp only [if_true]
  refine wpAny_bind (wpAny_rule ?_)
  refine wpAny_bind (wpAny_field hz rfl (x := .ref TO) rfl ?_)
  refine wpAny_bind (wpAny_setField_rec hz (by simp) fun g₁ hz₁ hs₁ => ?_)
  replace hz₁ : IsZip g₁ z TI TO .ellipsis := hz₁
  refine wpAny_bind ?_
  simp only [List.zipIdx_cons, List.zipIdx_nil, List.forIn_cons, List.forIn_nil]
  refine wpAny_bind (wpAny_bind (wpAny_onRaise ?_))
  show wpAny _ _ (Builtin.SmallTypes.nextOf (.ref i1) >>= _) _ _ _
  refine wpAny_bind (nextOf_tuple_item (h1.extBut hs₁.extBut i1z) (hl1.extBut hs₁.extBut l1z) hx fun g₂ h1₂ hs₂ => wpAny_pure ?_)
  have hTO₂ : IsPair g₂ TO a b := hs₂.extBut _ _ TOi1 (hs₁.extBut _ _ TOz hTO)
  refine wpAny_bind (wpAny_seqItems hTO₂ rfl ?_)
  refine wpAny_bind (wpAny_updateSeq_pair hTO₂ fun g₃ hTO₃ hs₃ => ?_)
  replace hTO₃ : IsPair g₃ TO x b := hTO₃
  refine wpAny_bind (wpAny_letGo (wpAny_pure ?_))
  refine wpAny_bind (wpAny_bind (wpAny_onRaise ?_))
  show wpAny _ _ (Builtin.SmallTypes.nextOf (.ref i2) >>= _) _ _ _
  refine wpAny_bind (nextOf_tuple_item (((h2.extBut hs₁.extBut i2z).extBut hs₂.extBut i12.symm).extBut hs₃.extBut TOi2.symm)
    (((hl2.extBut hs₁.extBut l2z).extBut hs₂.extBut l2i1).extBut hs₃.extBut l2TO) hy fun g₄ h2₄ hs₄ => wpAny_pure ?_)
  have hTO₄ : IsPair g₄ TO x b := hs₄.extBut _ _ TOi2 hTO₃
  refine wpAny_bind (wpAny_seqItems hTO₄ rfl ?_)
  refine wpAny_bind (wpAny_updateSeq_pair hTO₄ fun g₅ hTO₅ hs₅ => ?_)
  replace hTO₅ : IsPair g₅ TO x y := hTO₅
  refine wpAny_bind (wpAny_letGo (wpAny_pure (wpAny_pure ?_)))
  refine wpAny_bind (wpAny_seqItems hTO₅ rfl ?_)
  refine wpAny_bind (wpAny_newTuple ?_)
  have hsz : g₅.objs.size = s.heap.objs.size := by rw [hs₅.1, hs₄.1, hs₃.1, hs₂.1, hs₁.1]
  have hz₅ : IsZip g₅ z TI TO .ellipsis := hs₅.extBut _ _ TOz.symm (hs₄.extBut _ _ i2z.symm (hs₃.extBut _ _ TOz.symm (hs₂.extBut _ _ i1z.symm hz₁)))
  have hk₅ : ∀ c o, c ≠ z → c ≠ TO → c ≠ i1 → c ≠ i2 → s.heap.get? c = some o → g₅.get? c = some o := fun c o c1 c2 c3 c4 e =>
    hs₅.extBut _ _ c2 (hs₄.extBut _ _ c4 (hs₃.extBut _ _ c2 (hs₂.extBut _ _ c3 (hs₁.extBut _ _ c1 e))))
  have h1₅ : g₅.IsTupleIter i1 l1 (k + 1) := ((h1₂.extBut hs₃.extBut TOi1.symm).extBut hs₄.extBut i12).extBut hs₅.extBut TOi1.symm
  have h2₅ : g₅.IsTupleIter i2 l2 (k + 1) := h2₄.extBut hs₅.extBut TOi2.symm
  have hzlt : z < g₅.objs.size := Heap.lt_size hz₅
  show wpAny _ _ (Builtin.SmallTypes.ownedTupleHandOut (.ref z) (.ref g₅.objs.size) >>= _) _ _ _
  refine wpAny_bind ?_
  unfold Builtin.SmallTypes.ownedTupleHandOut
  have hz₆ : IsZip (g₅.push { cls := .type "tuple", data := .seq #[x, y] }) z TI TO .ellipsis := Heap.get?_push_of_some _ hz₅
  refine wpAny_bind (wpAny_setField_rec hz₆ (by simp) fun g₇ hz₇ hs₇ => ?_)
  replace hz₇ : IsZip g₇ z TI TO (rawInt g₅.objs.size) := hz₇
  refine wpAny_setField_rec hz₇ (by simp) fun g₈ hz₈ hs₈ => ?_
  replace hz₈ : IsZip g₈ z TI TO (rawInt g₅.objs.size) := hz₈
  have up : ∀ c o, c ≠ z → g₅.get? c = some o → g₈.get? c = some o := fun c o c1 e => hs₈.extBut _ _ c1 (hs₇.extBut _ _ c1 (Heap.get?_push_of_some _ e))
  have hT₈ : IsPair g₈ g₅.objs.size x y := hs₈.extBut _ _ (Nat.ne_of_gt hzlt) (hs₇.extBut _ _ (Nat.ne_of_gt hzlt) (Heap.get?_push_size _ rfl))
  rw [hsz] at hz₈ hT₈
  refine wpAny_pure ⟨_, rfl, ?_⟩
  show Q (.ref g₅.objs.size) _
  rw [hsz]
  have off : ∀ c o, c ≠ z → c ≠ TO → c ≠ i1 → c ≠ i2 → s.heap.get? c = some o → g₈.get? c = some o := fun c o c1 c2 c3 c4 e => up c o c1 (hk₅ c o c1 c2 c3 c4 e)
  exact hQ g₈ ⟨hz₈, off _ _ TIz TITO TIi1 TIi2 hTI, ⟨x, y, up _ _ TOz hTO₅⟩, tupIter_at h1₅ fun o e => up _ o i1z e, tupIter_at h2₅ fun o e => up _ o i2z e, tup_at hl1 fun o e => off _ o l1z l1TO l1i1 l1i2 e, tup_at hl2 fun o e => off _ o l2z l2TO l2i1 l2i2 e⟩ hT₈ off

theorem zipT_end {Q : Fin → Shared → Prop} (hh : A.handled = none) (D : ZA z TI TO i1 i2 l1 l2) (S : ZS z TI TO i1 i2 l1 l2 xs ys .none k k s.heap) (hend : xs[k]? = none ∨ ys[k]? = none)
    (hE : ∀ h' e, (∀ c o, c ≠ z → c ≠ TO → c ≠ i1 → c ≠ i2 → s.heap.get? c = some o → h'.get? c = some o) → (∃ o, h'.get? e = some o ∧ o.cls = .type "StopIteration") → E (.ref e) { s with heap := h' }) :
    wpAny (model prog w) A (Builtin.«zip.__next__» ⟨[.ref z], []⟩) Q E s := by
  obtain ⟨TIz, TOz, i1z, i2z, TITO, TIi1, TIi2, TOi1, TOi2, i12⟩ := D.ne
  obtain ⟨⟨l1z, l1TO, l1i1, l1i2⟩, l2z, l2TO, l2i1, l2i2⟩ := D.l
  obtain ⟨hz, hTI, ⟨a, b, hTO⟩, h1, h2, hl1, hl2⟩ := S
  show wpAny _ _ (field (.ref z) 2 >>= _) _ _ _
  refine wpAny_bind (wpAny_field hz rfl (x := .bool false) rfl ?_)
  show wpAny _ _ (field (.ref z) 3 >>= _) _ _ _
  refine wpAny_bind (wpAny_field hz rfl (x := .ref TI) rfl ?_)
  refine wpAny_bind (wpAny_seqItems hTI rfl ?_)
  show wpAny _ _ (Builtin.SmallTypes.ownedTupleIsFree (.ref z) >>= _) _ _ _
  refine wpAny_bind ?_
  unfold Builtin.SmallTypes.ownedTupleIsFree
  refine wpAny_bind (wpAny_field hz rfl (x := .none) rfl (wpAny_pure ?_))
  simp only [if_true]
  refine wpAny_bind (wpAny_rule ?_)
  refine wpAny_bind (wpAny_field hz rfl (x := .ref TO) rfl ?_)
  refine wpAny_bind (wpAny_setField_rec hz (by simp) fun g₁ hz₁ hs₁ => ?_)
  replace hz₁ : IsZip g₁ z TI TO .ellipsis := hz₁
  refine wpAny_bind ?_
  simp only [List.zipIdx_cons, List.zipIdx_nil, List.forIn_cons, List.forIn_nil]
  refine wpAny_bind (wpAny_bind (wpAny_onRaise ?_))
  show wpAny _ _ (Builtin.SmallTypes.nextOf (.ref i1) >>= _) _ _ _
  cases hx : xs[k]? with
  | none =>
    refine wpAny_bind (nextOf_tuple_end hh (h1.extBut hs₁.extBut i1z) (hl1.extBut hs₁.extBut l1z) hx fun g₂ e hs₂ he => ?_)
    obtain ⟨oe, hoe, hce⟩ := he
    have hz₂ : IsZip g₂ z TI TO .ellipsis := hs₂ _ _ i1z.symm hz₁
    have hez : e ≠ z := fun x => by subst x; rw [hz₂] at hoe; cases hoe; simp at hce
    refine wpAny_setField_rec hz₂ (by simp) fun g₃ _ hs₃ => hE g₃ e (fun c o c1 _ c3 _ x => hs₃.extBut _ _ c1 (hs₂ _ _ c3 (hs₁.extBut _ _ c1 x))) ⟨oe, hs₃.extBut _ _ hez hoe, hce⟩
  | some x =>
    have hy : ys[k]? = none := by rcases hend with h | h; rw [hx] at h; cases h; exact h
    refine wpAny_bind (nextOf_tuple_item (h1.extBut hs₁.extBut i1z) (hl1.extBut hs₁.extBut l1z) hx fun g₂ h1₂ hs₂ => wpAny_pure ?_)
    have hTO₂ : IsPair g₂ TO a b := hs₂.extBut _ _ TOi1 (hs₁.extBut _ _ TOz hTO)
    refine wpAny_bind (wpAny_seqItems hTO₂ rfl ?_)
    refine wpAny_bind (wpAny_updateSeq_pair hTO₂ fun g₃ hTO₃ hs₃ => ?_)
    refine wpAny_bind (wpAny_letGo (wpAny_pure ?_))
    refine wpAny_bind (wpAny_bind (wpAny_onRaise ?_))
    show wpAny _ _ (Builtin.SmallTypes.nextOf (.ref i2) >>= _) _ _ _
    refine wpAny_bind (nextOf_tuple_end hh (((h2.extBut hs₁.extBut i2z).extBut hs₂.extBut i12.symm).extBut hs₃.extBut TOi2.symm)
      (((hl2.extBut hs₁.extBut l2z).extBut hs₂.extBut l2i1).extBut hs₃.extBut l2TO) hy fun g₄ e hs₄ he => ?_)
    obtain ⟨oe, hoe, hce⟩ := he
    have hz₄ : IsZip g₄ z TI TO .ellipsis := hs₄ _ _ i2z.symm (hs₃.extBut _ _ TOz.symm (hs₂.extBut _ _ i1z.symm hz₁))
    have hez : e ≠ z := fun x => by subst x; rw [hz₄] at hoe; cases hoe; simp at hce
    refine wpAny_setField_rec hz₄ (by simp) fun g₅ _ hs₅ => hE g₅ e (fun c o c1 c2 c3 c4 x => hs₅.extBut _ _ c1 (hs₄ _ _ c4 (hs₃.extBut _ _ c2 (hs₂.extBut _ _ c3 (hs₁.extBut _ _ c1 x))))) ⟨oe, hs₅.extBut _ _ hez hoe, hce⟩
end

theorem ZS.there {z TI TO i1 i2 l1 l2 : Addr} {xs ys : Array Value} {f0 : Value} {k1 k2 : Nat} {h : Heap} (S : ZS z TI TO i1 i2 l1 l2 xs ys f0 k1 k2 h) : ∀ b ∈ [z, TI, TO, i1, i2], ∃ o, h.get? b = some o := by
  obtain ⟨hz, hTI, ⟨a, b, hTO⟩, h1, h2, t1, t2⟩ := S
  intro b hb
  simp only [List.mem_cons, List.not_mem_nil, or_false] at hb
  rcases hb with rfl | rfl | rfl | rfl | rfl
  · exact ⟨_, hz⟩
  · exact ⟨_, hTI⟩
  · exact ⟨_, hTO⟩
  · exact tuple_iter_there h1
  · exact tuple_iter_there h2

noncomputable def zipped : List PV → List PV → List PV
  | a :: as, b :: bs => .tup [a, b] :: zipped as bs
  | _, _ => []
theorem zipped_get : ∀ (as bs : List PV) (i : Nat) (p : PV), (zipped as bs)[i]? = some p → ∃ a b, as[i]? = some a ∧ bs[i]? = some b ∧ p = .tup [a, b]
  | [], _, _, _, h => by simp [zipped] at h
  | a :: as, [], _, _, h => by simp [zipped] at h
  | a :: as, b :: bs, 0, p, h => by simp [zipped] at h; exact ⟨a, b, rfl, rfl, h.symm⟩
  | a :: as, b :: bs, i + 1, p, h => by
    unfold zipped at h
    rw [List.getElem?_cons_succ] at h
    simpa using zipped_get as bs i p h
theorem zipped_length : ∀ (as bs : List PV), (zipped as bs).length = min as.length bs.length
  | [], _ => by simp [zipped]
  | a :: as, [] => by simp [zipped]
  | a :: as, b :: bs => by unfold zipped; rw [List.length_cons, List.length_cons, List.length_cons, zipped_length as bs]; omega

noncomputable def StZ (us vs : List Value) (as bs : List PV) (z TI TO i1 i2 l1 l2 : Addr) (i : Nat) (g : Fz) (ads : List Addr) (h : Heap) : Prop :=
  (IsZip h z TI TO .none ∧ IsPair h TI (.ref i1) (.ref i2) ∧ (∃ a b, IsPair h TO a b) ∧ h.IsTupleIter i1 l1 i ∧ h.IsTupleIter i2 l2 i) ∧ (∃ n, g l1 = some { cls := .type "tuple", data := .seq us.toArray n }) ∧ (∃ n, g l2 = some { cls := .type "tuple", data := .seq vs.toArray n }) ∧
    VRs g ads us as ∧ VRs g ads vs bs ∧ (∀ b ∈ [z, TI, TO, i1, i2], b ∉ ads ∧ g b = none)
theorem Wk.zip {C : Ctx0} {A : Around} {elts : List Expr} {k : Nat} {pos : Pos} {z TI TO i1 i2 l1 l2 : Addr} {us vs : List Value} {as bs : List PV} (hh : A.handled = none) (D : ZA z TI TO i1 i2 l1 l2) :
    Wk C A (.Tuple elts k pos) z [z, TI, TO, i1, i2] (zipped as bs) (fun _ => True) (StZ us vs as bs z TI TO i1 i2 l1 l2) where
  frame := fun {i g ads h g' ads' h' own'} st x hn => by
    obtain ⟨⟨hz, hTI, ⟨a, b, hTO⟩, h1, h2⟩, ⟨n, ha⟩, ⟨n', hb⟩, r, r', no⟩ := st
    have kp : ∀ b ∈ [z, TI, TO, i1, i2], ∀ o, h.get? b = some o → h'.get? b = some o := fun b hb o e => x.keep b o (no b hb).1 (hn b hb) e
    refine ⟨⟨kp z (by simp) _ hz, kp TI (by simp) _ hTI, ⟨a, b, kp TO (by simp) _ hTO⟩, tupIter_at h1 (kp i1 (by simp)), tupIter_at h2 (kp i2 (by simp))⟩, ⟨n, x.gsub _ _ ha⟩, ⟨n', x.gsub _ _ hb⟩, r.mono x.gsub x.idx, r'.mono x.gsub x.idx, fun b hb => ?_⟩
    obtain ⟨o, ho⟩ : ∃ o, h.get? b = some o := by
      simp only [List.mem_cons, List.not_mem_nil, or_false] at hb
      rcases hb with rfl | rfl | rfl | rfl | rfl
      · exact ⟨_, hz⟩
      · exact ⟨_, hTI⟩
      · exact ⟨_, hTO⟩
      · exact tuple_iter_there h1
      · exact tuple_iter_there h2
    exact x.off (no b hb).1 (no b hb).2 ho
  live := fun {i g ads h} st b hb => ⟨(st.2.2.2.2.2 b hb).1, (st.2.2.2.2.2 b hb).2, by
    obtain ⟨⟨hz, hTI, ⟨a, b, hTO⟩, h1, h2⟩, _⟩ := st
    simp only [List.mem_cons, List.not_mem_nil, or_false] at hb
    rcases hb with rfl | rfl | rfl | rfl | rfl
    · exact ⟨_, hz⟩
    · exact ⟨_, hTI⟩
    · exact ⟨_, hTO⟩
    · exact tuple_iter_there h1
    · exact tuple_iter_there h2⟩
  item := fun {i g ads st s p} hst base z' G hp => by
    obtain ⟨⟨hz, hTI, hTO, h1, h2⟩, ⟨n, ha⟩, ⟨n', hb⟩, r, r', no⟩ := hst
    have S : ZS z TI TO i1 i2 l1 l2 us.toArray vs.toArray .none _ _ s.heap := ⟨hz, hTI, hTO, h1, h2, ⟨_, z'.gh _ _ ha, rfl, _, rfl⟩, ⟨_, z'.gh _ _ hb, rfl, _, rfl⟩⟩
    obtain ⟨a, b, ea, eb, rfl⟩ := zipped_get _ _ _ _ hp
    obtain ⟨va, hva, vra⟩ := r.get ea
    obtain ⟨vb, hvb, vrb⟩ := r'.get eb
    have hT : s.TypeIs (.ref z) "zip" := ⟨_, S.hz, rfl⟩
    unfold pyNext
    refine wpAny_bind (wpAny_attempt (wpAny_callSpecial?_slot (name := Str.ofString "__next__") hT F.slot_zip_next
      (wpAny_call_entry F.slot_zip_next hT F.entry_zip_next (zipT_item D S (x := va) (y := vb) (by simpa using hva) (by simpa using hvb) fun h' S' hT' off => wpAny_pure ⟨_, rfl, ?_⟩) (F.args_zip_next_1 _))))
    refine wpAny_letOwnedTupleGo_zip S'.hz fun h'' hz'' hs'' => ?_
    obtain ⟨TIz, TOz, i1z, i2z, _⟩ := D.ne
    obtain ⟨⟨l1z, _⟩, l2z, _⟩ := D.l
    have th := S.there
    have fresh : ∀ b ∈ [z, TI, TO, i1, i2], b ≠ s.heap.objs.size := fun b hb q => by
      obtain ⟨o, ho⟩ := th b hb
      rw [q, fresh_none] at ho; cases ho
    have ext : ∀ b o, b ∉ [z, TI, TO, i1, i2] → s.heap.get? b = some o → h''.get? b = some o := fun b o hb e' => by
      simp only [List.mem_cons, List.not_mem_nil, or_false, not_or] at hb
      exact hs''.extBut b o hb.1 (off b o hb.1 hb.2.2.1 hb.2.2.2.1 hb.2.2.2.2 e')
    have hT'' : IsPair h'' s.heap.objs.size va vb := hs''.extBut _ _ (Ne.symm (fresh z (by simp))) hT'
    have S'' : ZS z TI TO i1 i2 l1 l2 us.toArray vs.toArray .none (i + 1) (i + 1) h'' := by
      obtain ⟨_, hTI, ⟨a', b', hTO⟩, h1, h2, t1, t2⟩ := S'
      exact ⟨hz'', hs''.extBut _ _ TIz hTI, ⟨a', b', hs''.extBut _ _ TOz hTO⟩, h1.extBut hs''.extBut i1z, h2.extBut hs''.extBut i2z, t1.extBut hs''.extBut l1z, t2.extBut hs''.extBut l2z⟩
    obtain ⟨nx, sm⟩ := step_frozen (own := [z, TI, TO, i1, i2]) z' fresh_none hT'' ext fun b hb => ⟨(no b hb).1, (no b hb).2, by obtain ⟨o, ho⟩ := S''.there b hb; rw [ho]; rfl⟩
    refine ⟨_, nx, sm, .tup (n := 0) (vs := [va, vb]) ?_ (.cons (vra.mono nx.gsub nx.idx) (.cons (vrb.mono nx.gsub nx.idx) .nil)), ⟨⟨S''.hz, S''.hTI, S''.hTO, S''.h1, S''.h2⟩, ⟨n, nx.gsub _ _ ha⟩, ⟨n', nx.gsub _ _ hb⟩, r.mono nx.gsub nx.idx, r'.mono nx.gsub nx.idx, fun b hb => ⟨(no b hb).1, ?_⟩⟩, rfl⟩
    · show setF g s.heap.objs.size _ s.heap.objs.size = _
      unfold setF; rw [if_pos rfl]
    · unfold setF
      rw [if_neg (fresh b hb)]
      exact (no b hb).2
  done := fun {g ads st s} hst z' G => by
    obtain ⟨⟨hz, hTI, hTO, h1, h2⟩, ⟨n, ha⟩, ⟨n', hb⟩, r, r', no⟩ := hst
    have S : ZS z TI TO i1 i2 l1 l2 us.toArray vs.toArray .none _ _ s.heap := ⟨hz, hTI, hTO, h1, h2, ⟨_, z'.gh _ _ ha, rfl, _, rfl⟩, ⟨_, z'.gh _ _ hb, rfl, _, rfl⟩⟩
    have hend : us.toArray[(zipped as bs).length]? = none ∨ vs.toArray[(zipped as bs).length]? = none := by
      rw [zipped_length]
      have e1 := r.length
      have e2 := r'.length
      rcases Nat.le_total as.length bs.length with h | h
      · left; rw [Nat.min_eq_left h]; simp [e1]
      · right; rw [Nat.min_eq_right h]; simp [e2]
    have hT : s.TypeIs (.ref z) "zip" := ⟨_, S.hz, rfl⟩
    unfold pyNext
    refine wpAny_bind (wpAny_attempt (wpAny_callSpecial?_slot (name := Str.ofString "__next__") hT F.slot_zip_next
      (wpAny_call_entry F.slot_zip_next hT F.entry_zip_next (zipT_end hh D S hend fun h' e hk he => ?_) (F.args_zip_next_1 _))))
    obtain ⟨o, ho, hc⟩ := he
    refine wpAny_bind (wpAny_isInstance (T := "StopIteration") (b := true) ⟨o, ho, hc⟩ isSubtype_stop ?_)
    refine wpAny_pure ⟨rfl, fun b o hb e => ?_, rfl⟩
    simp only [List.mem_cons, List.not_mem_nil, or_false, not_or] at hb
    exact hk b o hb.1 hb.2.2.1 hb.2.2.2.1 hb.2.2.2.2 e
  self := fun {i g ads s Q} st q => wpAny_pyIter_zip st.1.1 q
theorem meets_zip_newTup (l1 l2 : Addr) (xs ys : Array Value) :
    Meets (Builtin.«zip.__new__» ⟨[.type "zip", .ref l1, .ref l2], []⟩) (fun _ R s => s.heap.IsTuple l1 xs ∧ s.heap.IsTuple l2 ys ∧
      ∀ h1 h2 h3 h4, h1 = s.heap.push { cls := .type "tuple_iterator", data := .fields #[.ref l1, .int 0 0] } → h2 = h1.push { cls := .type "tuple_iterator", data := .fields #[.ref l2, .int 0 0] } →
        h3 = h2.push { cls := .type "tuple", data := .seq #[.ref s.heap.objs.size, .ref h1.objs.size] } → h4 = h3.push { cls := .type "tuple", data := .seq #[.none, .none] } →
        R (.ok (.ret (.ref h4.objs.size))) { s with heap := h4.push { cls := .type "zip", data := .fields #[.none, .bool false, .bool false, .ref h2.objs.size, .ref h3.objs.size] } }) :=
  .of_wp fun prog w A R s h => by
    obtain ⟨hp, g, d, tk, os⟩ := s; obtain ⟨hl1, hl2, h⟩ := h
    have hsub := sub_zip
    have hL1 : Heap.IsTuple (Shared.heap ⟨hp, g, d, tk, os⟩) l1 xs := hl1
    have hL2 : Heap.IsTuple (Shared.heap ⟨hp.push { cls := .type "tuple_iterator", data := .fields #[.ref l1, .int 0 0] }, g, d, tk, os⟩) l2 ys := Heap.IsTuple.push hl2 _
    wp_walk using wpAny_pyIter_tuple hL1, wpAny_pyIter_tuple hL2
    exact ⟨_, rfl, h _ _ _ _ rfl rfl rfl rfl⟩

section
variable {C : Ctx0} {n : Nat} {sc : Scope} {ρ : List (Str × PV)} {st : List PObj} {Qn : PostN} {Qr : Post}
theorem WI.zip {elts : List Expr} {k : Nat} {tpos : Pos} {x : Str} {px pos : Pos} {ea eb : Expr} {Q : List PV → (List PObj → Prop) → List PObj → Prop} (hk : sc.names.lookup x = some .globalImplicit) (hx : nsIn (hd.heap_1 C.w.params) mainGlobals x = some none)
    (hv : bootBuiltins x = some (.type "zip")) (hn : x ≠ "__name__") (hd : (x == ("__debug__" : Str)) = false)
    (he : ∀ env, eval (.Call (.Name x px) [ea, eb] [] pos) env = (do callWith pos (← eval (.Name x px) env) [] (backTo pos (starEach [ea, eb] env)) (backToKw pos (keywordEach [] env))))
    (hs : ∀ env, starEach [ea, eb] env = (false, eval ea env) :: starEach [eb] env) (hp : ∀ env, (backTo pos (starEach [eb] env)).any (·.1) = false)
    (h : Ws C n sc [ea, eb] ρ st (fun ps st₁ => ∃ l m, ps = [.tup l, .tup m] ∧ Q (zipped l m) (fun _ => True) st₁)) :
    WI C n sc (.Tuple elts k tpos) (.Call (.Name x px) [ea, eb] [] pos) ρ st Q := by
  intro A env g ads s z
  refine Call_ (evalBuiltin z hk hx hv hn hd ?_) (he env)
  refine PyProof.Rows.callWith_type1 (Ws.run h z fun vs s₁ g₁ ads₁ ps st₁ z₁ x₁ e₁ vrs q => ?_) (hs env) (hp env)
  obtain ⟨l, m, rfl, q⟩ := q
  cases vrs with
  | @cons va _ _ _ hva r =>
    cases r with
    | @cons vb _ _ _ hvb r =>
      cases r
      cases hva with
      | @tup a us ma _ ga ra =>
        cases hvb with
        | @tup b ws mb _ gb rb =>
          have gha := z₁.sim.gh _ _ ga
          have ghb := z₁.sim.gh _ _ gb
          have lta : a < s₁.heap.objs.size := Heap.lt_size gha
          have ltb : b < s₁.heap.objs.size := Heap.lt_size ghb
          refine callType_new F.called_zip (by decide) (F.typeCall_zip_2 _ _) (F.newCall_zip_2 _ _) (fun obj => F.args_object_init_3 obj _ _) F.entry_zip_new
            (meets_zip_newTup a b us.toArray ws.toArray) ⟨⟨_, gha, rfl, _, rfl⟩, ⟨_, ghb, rfl, _, rfl⟩, ?_⟩
          intro h1 h2 h3 h4 e1 e2 e3 e4
          have z1 : h1.objs.size = s₁.heap.objs.size + 1 := by rw [e1]; exact Heap.size_push ..
          have z2 : h2.objs.size = s₁.heap.objs.size + 2 := by rw [e2, Heap.size_push, z1]
          have z3 : h3.objs.size = s₁.heap.objs.size + 3 := by rw [e3, Heap.size_push, z2]
          have z4 : h4.objs.size = s₁.heap.objs.size + 4 := by rw [e4, Heap.size_push, z3]
          obtain ⟨nx1, sm1⟩ := hidden z₁.sim { cls := .type "tuple_iterator", data := .fields #[.ref a, .int 0 0] }
          rw [← e1] at nx1 sm1
          obtain ⟨nx2, sm2⟩ := hidden sm1 { cls := .type "tuple_iterator", data := .fields #[.ref b, .int 0 0] }
          rw [← e2] at nx2 sm2
          obtain ⟨nx3, sm3⟩ := hidden sm2 { cls := .type "tuple", data := .seq #[.ref s₁.heap.objs.size, .ref h1.objs.size] }
          rw [← e3] at nx3 sm3
          obtain ⟨nx4, sm4⟩ := hidden sm3 { cls := .type "tuple", data := .seq #[.none, .none] }
          rw [← e4] at nx4 sm4
          obtain ⟨nx5, sm5⟩ := hidden sm4 { cls := .type "zip", data := .fields #[.none, .bool false, .bool false, .ref h2.objs.size, .ref h3.objs.size] }
          generalize hH : h4.push { cls := .type "zip", data := .fields #[.none, .bool false, .bool false, .ref h2.objs.size, .ref h3.objs.size] } = H at nx5 sm5 ⊢
          have g5 : H.get? h4.objs.size = some { cls := .type "zip", data := .fields #[.none, .bool false, .bool false, .ref h2.objs.size, .ref h3.objs.size] } := by rw [← hH]; exact Heap.get?_push_size _ rfl
          have up5 : ∀ {b o}, h4.get? b = some o → H.get? b = some o := fun e => by rw [← hH]; exact Heap.get?_push_of_some _ e
          have g4 : H.get? h3.objs.size = some { cls := .type "tuple", data := .seq #[.none, .none] } := up5 (by rw [e4]; exact Heap.get?_push_size _ rfl)
          have up4 : ∀ {b o}, h3.get? b = some o → H.get? b = some o := fun e => up5 (by rw [e4]; exact Heap.get?_push_of_some _ e)
          have g3 : H.get? h2.objs.size = some { cls := .type "tuple", data := .seq #[.ref s₁.heap.objs.size, .ref h1.objs.size] } := up4 (by rw [e3]; exact Heap.get?_push_size _ rfl)
          have up3 : ∀ {b o}, h2.get? b = some o → H.get? b = some o := fun e => up4 (by rw [e3]; exact Heap.get?_push_of_some _ e)
          have g2 : H.get? h1.objs.size = some { cls := .type "tuple_iterator", data := .fields #[.ref b, .int 0 0] } := up3 (by rw [e2]; exact Heap.get?_push_size _ rfl)
          have g1 : H.get? s₁.heap.objs.size = some { cls := .type "tuple_iterator", data := .fields #[.ref a, .int 0 0] } := up3 (by rw [e2]; exact Heap.get?_push_of_some _ (by rw [e1]; exact Heap.get?_push_size _ rfl))
          have f0 : s₁.heap.get? s₁.heap.objs.size = none := fresh_none
          have fr : ∀ b ∈ [h4.objs.size, h2.objs.size, h3.objs.size, s₁.heap.objs.size, h1.objs.size], s₁.heap.get? b = none := fun b hb => by
            simp only [List.mem_cons, List.not_mem_nil, or_false] at hb
            refine fresh_get ?_
            rcases hb with rfl | rfl | rfl | rfl | rfl <;> (try rw [z4]) <;> (try rw [z3]) <;> (try rw [z2]) <;> (try rw [z1])
            all_goals first | exact Nat.le_refl _ | exact Nat.le_add_right _ _
          refine ⟨⟨_, g5, rfl⟩, wpAny_pyIter_zip (TI := h2.objs.size) (TO := h3.objs.size) (f0 := .none) g5 ?_⟩
          refine ⟨_, _, _, _, _, g₁, ads₁, st₁, rfl, Wk.zip (z := h4.objs.size) (TI := h2.objs.size) (TO := h3.objs.size) (i1 := s₁.heap.objs.size) (i2 := h1.objs.size) (l1 := a) (l2 := b) (us := us) (vs := ws) (as := l) (bs := m) z.a.hh ?_,
            ((((x₁.trans nx1).trans nx2).trans nx3).trans nx4).trans nx5, sm5, ?_, fun b hb => x₁.none (fr b hb), q, by rw [e₁]⟩
          · refine ⟨?_, ?_, ?_⟩
            · rw [z1, z2, z3, z4]
              simp
            · intro hm
              rw [z1, z2, z3, z4] at hm
              simp only [List.mem_cons, List.not_mem_nil, or_false] at hm
              have lta' : a < s₁.heap.objs.size := lta
              rcases hm with h | h | h | h | h <;> (rw [h] at lta'; exact absurd lta' (by simp))
            · intro hm
              rw [z1, z2, z3, z4] at hm
              simp only [List.mem_cons, List.not_mem_nil, or_false] at hm
              have ltb' : b < s₁.heap.objs.size := ltb
              rcases hm with h | h | h | h | h <;> (rw [h] at ltb'; exact absurd ltb' (by simp))
          · exact ⟨⟨g5, g3, ⟨_, _, g4⟩, ⟨_, g1, rfl, rfl⟩, ⟨_, g2, rfl, rfl⟩⟩, ⟨ma, ga⟩, ⟨mb, gb⟩, ra, rb, fun b hb => ⟨z₁.sim.ads_fresh (fr b hb), z₁.sim.gfresh (fr b hb)⟩⟩
end
theorem grow_nx {P : PW} {g : Fz} {ads : List Addr} {st : List PObj} {h h' : Heap} (z : Sim P g ads st h) (x : ∀ b o, h.get? b = some o → h'.get? b = some o) : Nx [] g ads h g ads h' ∧ Sim P g ads st h' := by
  refine ⟨⟨fun a b e => e, ⟨[], by simp⟩, fun b o _ _ e => x b o e, fun a n o e => (by rw [n] at e; cases e), fun _ m n => absurd m n, fun b e => ?_⟩, z.ext fun b o _ e => x b o e⟩
  obtain ⟨o, e⟩ := Option.isSome_iff_exists.mp e
  rw [x b o e]; rfl

/-! ## slices -/
noncomputable def SlOp (C : Ctx0) (n : Nat) (o lo up : PV) (st : List PObj) (Q : Post) : Prop :=
  ∀ A g ads s vo vl vu sl, AOk A n → (∀ b o, C.h₀.get? b = some o → g b = some o) → Sim C.pw g ads st s.heap → VR g ads vo o → VR g ads vl lo → VR g ads vu up → s.heap.IsSliceOf sl vl vu .none →
    (∃ T id, s.TypeIs vo T ∧ typeLookup (.type T) "__getitem__" = pure (some (.builtin id))) ∧ wpAny (model C.prog C.w) A (getItem vo (.ref sl)) (Res C.pw [] g ads s Q) No s
noncomputable def Wp (C : Ctx0) (n : Nat) (sc : Scope) (e : Option Expr) (ρ : List (Str × PV)) (st : List PObj) (Q : Post) : Prop := match e with
  | none => Q .none st
  | some e => W C n sc e ρ st Q

section
variable {C : Ctx0} {n : Nat} {sc : Scope} {ρ : List (Str × PV)} {st : List PObj} {Q : Post} {Qn : PostN} {Qr : Post}

theorem partOf {e : Option Expr} {Q₁ : Post} {A : Around} {env : Env} {g : Fz} {ads : List Addr} {s : Shared} {R : Value → Shared → Prop} (h : Wp C n sc e ρ st Q₁)
    (x : At0 C n sc ρ st A env g ads s)
    (k : ∀ v s₁ g₁ ads₁ pv st₁, At0 C n sc ρ st₁ A env g₁ ads₁ s₁ → Nx [] g ads s.heap g₁ ads₁ s₁.heap → s₁ = { s with heap := s₁.heap, toks := s₁.toks } → VR g₁ ads₁ v pv → Q₁ pv st₁ → R v s₁) :
    wpAny (model C.prog C.w) A (evalPart e env) R No s := by
  cases e with
  | none => exact wpAny_pure (k .none s g ads .none st x (Nx.refl _ _ _ _) rfl .none h)
  | some e => exact then_ h x k

theorem W.slice {value : Expr} {lower upper : Option Expr} {p pos : Pos}
    (h : W C n sc value ρ st (fun o st₁ => Wp C n sc lower ρ st₁ (fun lo st₂ => Wp C n sc upper ρ st₂ (fun up st₃ => SlOp C n o lo up st₃ Q)))) : W C n sc (.Subscript value (.Slice lower upper none p) pos) ρ st Q := by
  intro A env g ads s z
  rw [eval_Subscript]
  refine wpAny_bind (then_ h z fun vo s₁ g₁ ads₁ o st₁ z₁ x₁ e₁ vro q₁ => wpAny_bind (wpAny_holding (wpAny_Slice (partOf q₁ z₁ fun vl s₂ g₂ ads₂ lo st₂ z₂ x₂ e₂ vrl q₂ => partOf q₂ z₂ fun vu s₃ g₃ ads₃ up st₃ z₃ x₃ e₃ vru q₃ => ?_))))
  refine wpAny_pure ?_
  obtain ⟨nx, sm⟩ := hidden z₃.sim { cls := .type "slice", data := .fields #[vl, vu, .none] }
  refine wpAny_bind (wpAny_standAt ?_)
  obtain ⟨⟨T, id, hT, hl⟩, q₄⟩ := q₃ A g₃ ads₃ { s₃ with heap := s₃.heap.push { cls := .type "slice", data := .fields #[vl, vu, .none] } } vo vl vu s₃.heap.objs.size z.a z₃.base sm ((vro.mono x₂.gsub x₂.idx).mono x₃.gsub x₃.idx) (vrl.mono x₃.gsub x₃.idx) vru (Heap.IsSliceOf.new ..)
  have fin : wpAny (model C.prog C.w) A (operate [.ref s₃.heap.objs.size, vo] (getItem vo (.ref s₃.heap.objs.size))) (fun r s₄ => wpAny (model C.prog C.w) A (letTemporaryGo value vo r >>= fun _ => pure r) (Res C.pw [] g ads s Q) No s₄) No { s₃ with heap := s₃.heap.push { cls := .type "slice", data := .fields #[vl, vu, .none] } } :=
    wpAny_operating (wpAny_mono q₄ (fun r s₄ h₄ => wpAny_bind (wpAny_letTemporaryGo (wpAny_pure ((((h₄.step nx rfl).step x₃ e₃).step x₂ e₂).step x₁ e₁)))) fun _ _ x => x)
  first
    | (refine wpAny_bind ?_
       rw [getitemInPython_of_ne hT.not_modules]
       refine wpAny_bind (wpAny_specialOf hT hl ?_)
       first
         | exact wpAny_pure (wpAny_bind fin)
         | exact wpAny_bind (wpAny_pure (wpAny_bind fin))
         | exact wpAny_bind fin)
    | (refine wpAny_bind (wpAny_specialOf hT hl ?_)
       first
         | exact wpAny_bind (wpAny_pure (wpAny_bind fin))
         | exact wpAny_bind fin)

theorem tup_new {g : Fz} {ads : List Addr} {s : Shared} {vs : List Value} {ps : List PV} (z : Sim C.pw g ads st s.heap) (vrs : VRs g ads vs ps) (q : Q (.tup ps) st) :
    Res C.pw [] g ads s Q (.ref s.heap.objs.size) { s with heap := s.heap.push { cls := .type "tuple", data := .seq vs.toArray } } := by
  have f := froze z { cls := .type "tuple", data := .seq vs.toArray }
  refine ⟨_, ads, .tup ps, st, f.1, f.2, .tup (n := 0) ?_ (vrs.mono f.1.gsub f.1.idx), q, rfl⟩
  show setF g s.heap.objs.size _ s.heap.objs.size = _
  unfold setF; rw [if_pos rfl]
theorem list_new {g : Fz} {ads : List Addr} {s : Shared} {vs : List Value} {ps : List PV} (base : ∀ b o, C.h₀.get? b = some o → g b = some o) (z : Sim C.pw g ads st s.heap) (vrs : VRs g ads vs ps) (q : Q (.loc st.length) (st ++ [.list ps])) :
    Res C.pw [] g ads s Q (.ref s.heap.objs.size) { s with heap := s.heap.push { cls := .type "list", data := .seq vs.toArray } } := by
  have f := make_list z (lo_of base z) vrs
  exact ⟨_, _, _, _, f.1, f.2, loc_new z, q, rfl⟩

theorem SlOp.from {l : List PV} {a : Nat} (h1 : 1 ≤ a) (ha : a ≤ l.length) (hz : l.length ≤ 1000000) (q : Q (.tup (l.drop a)) st) : SlOp C n (.tup l) (.int (a : Int)) .none st Q := by
  intro A g ads s vo vl vu sl hA base z x y w hs
  cases y; cases w
  cases x with
  | @tup t vs m _ ga r =>
    have ht : IsTup s.heap t vs.toArray := ⟨_, z.gh _ _ ga, rfl, _, rfl⟩
    have e := r.length
    refine ⟨⟨"tuple", _, ht.typeIs, slot_tuple_getitem.lookup⟩, getItem_tuple_from ht hs h1 (by rw [List.size_toArray]; omega) ?_ (by rw [List.size_toArray, sizeLine_is]; omega)⟩
    exact tup_new z (r.drop a) q

theorem adjust_to (b n : Nat) (hb : b ≤ n) : Builtin.Slice.sliceAdjust none (some (b : Int)) 1 (n : Int) = (0, (b : Int)) := by
  unfold Builtin.Slice.sliceAdjust
  have h1 : ¬ ((1 : Int) < 0) := by walk_at "om"
  have h2 : ¬ ((b : Int) < 0) := by walk_at "om"
  simp only [h1, h2, if_false]
  congr 1
  omega
theorem places_to (b : Nat) : Builtin.Slice.slicePlaces 0 (b : Int) 1 = b := by
  unfold Builtin.Slice.slicePlaces
  have h1 : (1 : Int) > 0 := by walk_at "om"
  simp only [h1, if_true, Int.ediv_one]
  split <;> omega
theorem sliceApplied_to {prog : Program} {w : World} {A : Around} {E : Value → Shared → Prop} {s : Shared} {sl : Addr} {b n : Nat} {u : Tok} {Q : Int × Int × Nat → Shared → Prop} (hs : s.heap.IsSliceOf sl .none (.int b u) .none) (hb : b ≤ n) (h : Q (0, 1, b) s) :
    wpAny (model prog w) A (Builtin.Slice.sliceApplied (.ref sl) (pure (n : Int))) Q E s := by
  obtain ⟨os, hos, hcs, hds⟩ := id hs
  unfold Builtin.Slice.sliceApplied Builtin.Slice.sliceFields
  refine wpAny_bind (wpAny_bind (wpAny_field hos hds (x := .none) rfl (wpAny_bind (wpAny_field hos hds (x := .int b u) rfl (wpAny_bind (wpAny_field hos hds (x := .none) rfl (wpAny_pure ?_)))))))
  refine wpAny_bind (slicePart_none ?_)
  show wpAny _ _ (if ((1 : Int) == 0) = true then _ else _) _ _ s
  rw [if_neg (by decide)]
  refine wpAny_bind (slicePart_none (wpAny_bind (slicePart_int (wpAny_bind (wpAny_pure ?_)))))
  show wpAny _ _ (match Builtin.Slice.sliceAdjust none (some (b : Int)) 1 (n : Int) with | (lo, hi) => pure (lo, (1 : Int), Builtin.Slice.slicePlaces lo hi 1)) _ _ s
  rw [adjust_to b n hb]
  show wpAny _ _ (pure ((0 : Int), (1 : Int), Builtin.Slice.slicePlaces 0 (b : Int) 1)) _ _ s
  rw [places_to b]
  exact wpAny_pure h
theorem pick_to (xs : List Value) (b : Nat) : ((List.range b).filterMap fun (k : Nat) => xs.toArray[((0 : Int) + (k : Int) * 1).toNat]?) = xs.take b := by
  have e : (fun (k : Nat) => xs.toArray[((0 : Int) + (k : Int) * 1).toNat]?) = fun k => xs[k]? := by
    funext k
    have : ((0 : Int) + (k : Int) * 1).toNat = k := by walk_at "om"
    rw [this]; simp
  rw [e]
  induction b with
  | zero => simp
  | succ b ih =>
    rw [List.range_succ, List.filterMap_append, ih]
    cases h : xs[b]? with
    | none =>
      have hb : xs.length ≤ b := by simpa using h
      rw [List.take_of_length_le hb, List.take_of_length_le (Nat.le_succ_of_le hb)]
      simp [h]
    | some x =>
      obtain ⟨hb, hx⟩ := List.getElem?_eq_some_iff.mp h
      rw [List.take_add_one, h]
      simp [h]
theorem SlOp.to {l : List PV} {b : Nat} (hb : b < l.length) (hz : l.length ≤ 1000000) (q : Q (.tup (l.take b)) st) : SlOp C n (.tup l) .none (.int (b : Int)) st Q := by
  intro A g ads s vo vl vu sl hA base z x y w hs
  cases y; cases w
  cases x with
  | @tup t vs m _ ga r =>
    have ht : IsTup s.heap t vs.toArray := ⟨_, z.gh _ _ ga, rfl, _, rfl⟩
    have e := r.length
    refine ⟨⟨"tuple", _, ht.typeIs, slot_tuple_getitem.lookup⟩, ?_⟩
    obtain ⟨os, hos, hcs, hds⟩ := id hs
    have hTs : s.TypeIs (.ref sl) "slice" := ⟨os, hos, hcs⟩
    unfold getItem
    try with_reducible refine wpAny_holding ?_
    first | refine wpAny_bind (wpAny_pure ?_) | skip
    refine wpAny_bind (wpAny_sequenceKey ht.typeIs (by decide) ?_)
    refine wpAny_bind (wpAny_callSpecial?_slot (name := Str.ofString "__getitem__") ht.typeIs slot_tuple_getitem
      (wpAny_call_entry slot_tuple_getitem ht.typeIs entry_tuple_getitem ?_ (args_tuple_getitem _ _)))
    show wpAny _ _ (Builtin.Tuple.tupleItemsOf (.ref t) >>= _) _ _ s
    refine wpAny_bind (tupleItemsOf_ ht ?_)
    refine wpAny_bind (wpAny_typeOf hTs ?_)
    rw [if_pos (by decide)]
    refine wpAny_bind (sliceApplied_to (b := b) hs (by rw [List.size_toArray]; omega) ?_)
    have hno : ¬ (((0 : Int) == 0 && (1 : Int) == 1 && b == vs.toArray.size) = true) := by
      have : (b == vs.toArray.size) = false := by rw [beq_eq_false_iff_ne, List.size_toArray]; omega
      rw [this]; simp
    show wpAny _ _ (if ((0 : Int) == 0 && (1 : Int) == 1 && b == vs.toArray.size) = true then _ else _) _ _ s
    rw [if_neg hno, pick_to vs b]
    have hsz : sizeOk (.seq (vs.take b).toArray) := by
      show (vs.take b).toArray.size ≤ sizeLine
      rw [List.size_toArray, List.length_take, sizeLine_is]; omega
    have fin := tup_new (C := C) z (r.take b) q
    first
      | exact wpAny_bind (m := Builtin.Tuple.tupleExact _) (wpAny_newObj_type (wpAny_pure ⟨_, rfl, wpAny_pure fin⟩) hsz)
      | exact wpAny_bind (m := Builtin.Tuple.tupleExact _) (wpAny_newObj_type (wpAny_bind (wpAny_pure (wpAny_pure ⟨_, rfl, wpAny_pure fin⟩))) hsz)
      | exact wpAny_bind (wpAny_bind (m := Builtin.Tuple.tupleExact _) (wpAny_newObj_type (wpAny_pure (wpAny_pure ⟨_, rfl, wpAny_pure fin⟩)) hsz))
      | exact wpAny_bind (wpAny_bind (m := Builtin.Tuple.tupleExact _) (wpAny_newObj_type (wpAny_pure ⟨_, rfl, wpAny_pure fin⟩) hsz))
theorem SlOp.toS {x y : Str} (hp : ∀ u : Tok, slicePicked x none (some (1, u)) none = [0]) (hy : (if (1 == x.length) = true then x else ⟨([0].filterMap (x.cps[·]?)).toArray⟩ : Str) = y) (q : Q (.str y) st) : SlOp C n (.str x) .none (.int 1) st Q := by
  intro A g ads s vo vl vu sl hA base z x' y' w hs
  cases y'; cases x'
  cases w with
  | int _ u =>
    refine ⟨⟨"str", _, typeIs_str s x _, F.slot_str_getitem.lookup⟩, wpAny_getItem_str_slice (l := none) (u := some (1, u)) (st := none) hs (by decide) ?_⟩
    unfold sliceMade
    have e : slicePicked x none (some (1, u)) none = [0] := hp u
    rw [e]
    by_cases h : (1 == x.length) = true
    · rw [if_pos h] at hy
      subst hy
      have h' : ((Option.map (·.1) (none : Option (Int × Tok))).getD 1 == 1 && [0].length == x.length) = true := by
        show ((1 : Int) == 1 && 1 == x.length) = true
        rw [h]; rfl
      rw [if_pos h']
      exact Res.here0 z (.str _ _) q
    · rw [if_neg h] at hy
      subst hy
      have h' : ¬ ((Option.map (·.1) (none : Option (Int × Tok))).getD 1 == 1 && [0].length == x.length) = true := by
        show ¬ ((1 : Int) == 1 && 1 == x.length) = true
        intro q; exact h (by simpa using q)
      rw [if_neg h']
      refine ⟨?_, Res.here z (.str _ _) q⟩
      have : ([0].filterMap (x.cps[·]?)).length ≤ 1 := List.length_filterMap_le _ _
      show ([0].filterMap (x.cps[·]?)).toArray.size ≤ sizeLine
      rw [List.size_toArray, sizeLine_is]; omega
end
theorem VRs.ints {g : Fz} {ads : List Addr} : ∀ {vs : List Value} {ns : List Int}, VRs g ads vs (ns.map .int) → IntsAre vs ns := by
  intro vs ns
  induction ns generalizing vs with
  | nil => intro h; cases h; exact .nil
  | cons m ns ih =>
    intro h
    cases h with
    | cons h1 h2 => cases h1; exact .cons _ _ (ih h2)
theorem VRs.ofInts {g : Fz} {ads : List Addr} : ∀ {vs : List Value} {ns : List Int}, IntsAre vs ns → VRs g ads vs (ns.map .int)
  | _, _, .nil => .nil
  | _, _, .cons n t h => .cons (.int _ _) (VRs.ofInts h)
theorem VRs.ofStrs {g : Fz} {ads : List Addr} : ∀ {vs : List Value} {ss : List Str}, StrsAre vs ss → VRs g ads vs (ss.map .str)
  | _, _, .nil => .nil
  | _, _, .cons n t h => .cons (.str _ _) (VRs.ofStrs h)

theorem adoptO {P : PW} {g : Fz} {ads : List Addr} {st : List PObj} {h : Heap} {D : Addr} {po : PObj} (z : Sim P g ads st h) (nD : D ∉ ads) (gD : g D = none) (lo : mainGlobals < D) (ho : OR P g (ads ++ [D]) h D po) :
    Sim P g (ads ++ [D]) (st ++ [po]) h := by
  have idx : ∀ (n : Nat) (a : Addr), ads[n]? = some a → (ads ++ [D])[n]? = some a := fun n a e => by
    obtain ⟨hl, _⟩ := List.getElem?_eq_some_iff.mp e
    rw [List.getElem?_append_left hl]; exact e
  refine ⟨z.gh, List.nodup_append.mpr ⟨z.nd, by simp, fun a ha b hb => by rw [List.mem_singleton.mp hb]; exact fun q => nD (q ▸ ha)⟩, fun a ha => ?_, fun a ha => ?_, by rw [List.length_append, List.length_append, z.len]; rfl, fun n a p ha hp => ?_⟩
  · rcases List.mem_append.mp ha with ha | ha
    · exact z.ag a ha
    · rw [List.mem_singleton.mp ha]; exact gD
  · rcases List.mem_append.mp ha with ha | ha
    · exact z.hi a ha
    · rw [List.mem_singleton.mp ha]; exact lo
  · by_cases hl : n < ads.length
    · rw [List.getElem?_append_left hl] at ha
      rw [List.getElem?_append_left (z.len ▸ hl)] at hp
      exact (z.ob n a p ha hp).mono (fun a b e => e) idx fun o' e => e
    · rw [List.getElem?_append_right (Nat.le_of_not_lt hl)] at ha
      rw [List.getElem?_append_right (z.len ▸ Nat.le_of_not_lt hl), ← z.len] at hp
      have h0 : n - ads.length = 0 := by
        obtain ⟨q, _⟩ := List.getElem?_eq_some_iff.mp ha
        simp at q; omega
      rw [h0] at ha hp
      cases ha; cases hp
      exact ho

section
variable {C : Ctx0} {n : Nat} {sc : Scope} {ρ : List (Str × PV)} {st : List PObj} {Q : Post} {Qn : PostN} {Qr : Post}

theorem OpN.sumL {i : Nat} {ns : List Int} (hi : st[i]? = some (.list (ns.map .int))) (q : Q (.int ns.sum) st) : OpN C n (fun vs => PySem.call (.builtin "sum") vs) [.loc i] st Q := by
  intro A g ads s vs hA base z x
  cases x with
  | cons x r =>
    cases r
    obtain ⟨a, rfl, ha, o⟩ := z.ref x hi
    cases o with
    | @list vs k _ e r =>
      have hI := r.ints
      obtain ⟨xs, hx⟩ := hI.allInts.items
      have hl : s.heap.IsList a (intItems xs) := by rw [← hx]; exact ⟨_, e, rfl, _, rfl⟩
      refine sum_intListG hA.hh hl fun h' tk t' hk => ?_
      obtain ⟨nx, sm⟩ := grow_nx z hk
      have hs : preSum (numAt xs) xs.size = ns.sum := by
        rw [preSum_eq, List.take_of_length_le (by simp), ← nums_intItems, ← hx]
        have := hI.numsOf
        rw [show vs.toArray.toList = vs from rfl, this]
      rw [hs]
      exact ⟨g, ads, _, st, nx, sm, .int _ _, q, rfl⟩
theorem OpN.intI {m : Int} (q : Q (.int m) st) : OpN C n (fun vs => PySem.call (.type "int") vs) [.int m] st Q := by
  intro A g ads s vs hA base z x
  cases x with
  | cons x r =>
    cases r; cases x
    exact call_int_int (Res.here0 z (.int _ _) q)
theorem OpN.tupleL {i : Nat} {l : List PV} (hi : st[i]? = some (.list l)) (hz : l.length ≤ 1000000) (q : Q (.tup l) st) : OpN C n (fun vs => PySem.call (.type "tuple") vs) [.loc i] st Q := by
  intro A g ads s vs hA base z x
  cases x with
  | cons x r =>
    cases r
    obtain ⟨a, rfl, ha, o⟩ := z.ref x hi
    cases o with
    | @list vs k _ e r =>
      have e1 := r.length
      refine call_tuple_list (items := vs.toArray) ⟨_, e, rfl, _, rfl⟩ (fun h' hk => ?_) (by rw [List.size_toArray, sizeLine_is]; omega)
      obtain ⟨nx, sm⟩ := grow_nx z hk
      have := tup_new (C := C) (s := { s with heap := h' }) sm r q
      exact this.step nx rfl
theorem OpN.sortedI {i : Nat} {ns : List Int} (hi : st[i]? = some (.list (ns.map .int))) (hz : ns.length < 64) (q : ∀ ns' : List Int, ns'.Perm ns → ns'.Pairwise (· ≤ ·) → Q (.loc st.length) (st ++ [.list (ns'.map .int)])) : OpN C n (fun vs => PySem.call (.builtin "sorted") vs) [.loc i] st Q := by
  intro A g ads s vs hA base z x
  cases x with
  | cons x r =>
    cases r
    obtain ⟨a, rfl, ha, o⟩ := z.ref x hi
    cases o with
    | @list vs k _ e r =>
      have e1 := r.length
      rw [List.length_map] at e1
      refine sorted_ints (vs := vs) ⟨_, e, rfl, _, rfl⟩ r.ints (by rw [e1]; exact hz) fun out ns' a1 a2 a3 => ?_
      have old : ∀ b o, s.heap.get? b = some o → (sortedAll s.heap vs out).get? b = some o := fun b o e => sortedAll_old e
      obtain ⟨ep, at_⟩ := sortedAll_at s.heap vs out
      obtain ⟨nx, sm⟩ := grow_nx z old
      have f : s.heap.get? (s.heap.objs.size + 1) = none := fresh_get (Nat.le_succ _)
      have nD := z.ads_fresh f
      refine ⟨g, ads ++ [s.heap.objs.size + 1], .loc st.length, st ++ [.list (ns'.map .int)], nx.adopt f, adoptO sm nD (z.gfresh f) (Nat.lt_succ_of_lt (lo_of base z)) (.list (vs := out.toList) (n := ep) ?_ (VRs.ofInts a1)), .loc (by rw [← z.len]; simp), q ns' a2 a3, rfl⟩
      exact at_

theorem keys_strs {kvs' : List (Str × Value)} : ∀ (vs : List Value) (i : Nat), vs.length + i = kvs'.length → (∀ (j : Nat) (v : Value), vs[j]? = some v → ∃ k x, kvs'[i + j]? = some (k, x) ∧ v.isStrOf k = true) → StrsAre vs ((kvs'.drop i).map (·.1)) := by
  intro vs
  induction vs with
  | nil =>
    intro i hl _
    rw [List.drop_of_length_le (by simp at hl; omega)]
    exact .nil
  | cons v vs ih =>
    intro i hl h
    obtain ⟨k, x, hx, hk⟩ := h 0 v rfl
    obtain ⟨hlt, hg⟩ := List.getElem?_eq_some_iff.mp hx
    have hg' : kvs'[i]? = some (k, x) := by simpa using hx
    obtain ⟨hlt', hg''⟩ := List.getElem?_eq_some_iff.mp hg'
    rw [List.drop_eq_getElem_cons hlt', hg'', List.map_cons]
    have hv : ∃ t, v = .str k t := by
      cases v with
      | str y t =>
        have : y = k := by simpa [Value.isStrOf] using hk
        subst this; exact ⟨t, rfl⟩
      | _ => simp [Value.isStrOf] at hk
    obtain ⟨t, rfl⟩ := hv
    refine .cons k t (ih (i + 1) (by rw [List.length_cons] at hl; omega) fun j v hj => ?_)
    have := h (j + 1) v (by simpa using hj)
    rw [show i + 1 + j = i + (j + 1) by walk_at "om"]
    exact this
theorem OpN.sortedD {i : Nat} {kvs : List (Str × PV)} {ep : Nat} (hi : st[i]? = some (.sd kvs ep)) (hz : kvs.length < 64) (q : ∀ ss : List Str, ss.Perm (kvs.map (·.1)) → Q (.loc st.length) (st ++ [.list (ss.map .str)])) : OpN C n (fun vs => PySem.call (.builtin "sorted") vs) [.loc i] st Q := by
  intro A g ads s vs hA base z x
  cases x with
  | cons x r =>
    cases r
    obtain ⟨a, rfl, ha, o⟩ := z.ref x hi
    cases o with
    | @sd kvs' _ _ e r =>
      have e1 := r.length
      have low := not_modules (z.hi a (List.mem_of_getElem? ha))
      refine Calls.call_function_entry kind_sorted plain_sorted entry_sorted (args_sorted1 _) ?_
      unfold Builtin.«sorted»
      refine wpAny_bind (m := checkCount "sorted" 1 1 _) (wpAny_pure ?_)
      refine wpAny_bind (kdu_collect (A := A.in1) (kdl_dict (knd := PySem.strKind C.prog C.w) (kvs := kvs') (ep := ep) low) hA.hh e (by rw [sizeLine_is]; omega) fun h' tk acc hk hacc => ?_)
      have hl : acc.toList.length = kvs'.length := by rw [Array.length_toList]; exact hacc.1
      refine wpAny_bind (wpAny_newList ?_ (by rw [hl, sizeLine_is]; omega))
      have hS : StrsAre acc.toList (kvs'.map (·.1)) := by
        have := keys_strs (kvs' := kvs') acc.toList 0 (by walk_at "om") fun j v hj => by
          obtain ⟨k, x, hx, hk⟩ := hacc.2 j v (by rw [← Array.getElem?_toList]; exact hj)
          exact ⟨k, x, by simpa using hx, hk⟩
        simpa using this
      have hoL : (h'.push { cls := .type "list", data := .seq acc.toList.toArray }).get? h'.objs.size = some (seqObj "list" acc.toList.toArray 0) := Heap.get?_push_size _ rfl
      refine wpAny_bind (wpAny_holding (wpAny_call_entry slot_list_sort ⟨_, hoL, rfl⟩ entry_list_sort (list_sort_treeK strKind_oneLt hoL hS.keysOf (fun v₁ v₂ rest e => keyKind_strs (by rw [← e]; exact hS)) (by rw [hl]; omega) fun st' a1 a2 => ⟨_, rfl, ?_⟩) (args_list_sort _)))
      refine wpAny_pure ⟨_, rfl, ?_⟩
      obtain ⟨ss', b1, b2, _⟩ := sorted_out_str hS a1 a2
      obtain ⟨ep', at_⟩ := sortedHeap_at (out := (arrOf st').map (·.2)) hoL
      have old : ∀ b o, s.heap.get? b = some o → (sortedHeap (h'.push { cls := .type "list", data := .seq acc.toList.toArray }) h'.objs.size acc.toList ((arrOf st').map (·.2))).get? b = some o := fun b o e => by
        have e' := hk b o e
        have hlt : b < h'.objs.size := Heap.lt_size e'
        rw [sortedHeap_old (Nat.ne_of_lt hlt) (by rw [size_push']; exact Nat.lt_succ_of_lt hlt)]
        exact Heap.get?_push_of_some _ e'
      obtain ⟨nx, sm⟩ := grow_nx z old
      have f : s.heap.get? h'.objs.size = none := by
        cases q : s.heap.get? h'.objs.size with
        | none => rfl
        | some o => have := hk _ _ q; rw [fresh_none] at this; cases this
      have lo : mainGlobals < h'.objs.size := by
        obtain ⟨_, sm'⟩ := grow_nx z hk
        exact lo_of base sm'
      have hp : ss'.Perm (kvs.map (·.1)) := by rw [← r.keys]; exact b2
      exact ⟨g, ads ++ [h'.objs.size], .loc st.length, st ++ [.list (ss'.map .str)], nx.adopt f, adoptO sm (z.ads_fresh f) (z.gfresh f) lo (.list (vs := ((arrOf st').map (·.2)).toList) (n := ep') at_ (VRs.ofStrs b1)), .loc (by rw [← z.len]; simp), q ss' hp, rfl⟩

theorem ItemOp.str {x y : Str} (hc : ((seqIndex? 0 x.length).bind (x.cps[·]?)).map (fun c => (⟨#[c]⟩ : Str)) = some y) (q : Q (.str y) st) : ItemOp C n (.str x) (.int 0) st Q := by
  intro A g ads s vo vi hA base z x' y'
  cases x'; cases y'
  cases e : (seqIndex? 0 x.length).bind (x.cps[·]?) with
  | none => rw [e] at hc; cases hc
  | some c =>
    rw [e] at hc
    cases hc
    exact ⟨⟨"str", _, typeIs_str s x _, F.slot_str_getitem.lookup⟩, PyProof.Rows.getItem_str (by decide) e (Res.here z (.str _ _) q)⟩

/-! ## a dict of two named things -/
theorem W.dict2 {k1 k2 : Str} {c1 c2 : Nat} {p1 p2 pos : Pos} {e1 e2 : Expr} (hne : k1 ≠ k2) (h : W C n sc e1 ρ st (fun a st₁ => W C n sc e2 ρ st₁ (fun b st₂ => ∀ ep, Q (.loc st₂.length) (st₂ ++ [.sd [(k1, a), (k2, b)] ep])))) :
    W C n sc (.Dict [some (.Constant (.str k1) c1 p1), some (.Constant (.str k2) c2 p2)] [e1, e2] pos) ρ st Q := by
  intro A env g ads s z
  have fD : s.heap.get? s.heap.objs.size = none := fresh_none
  have lo := z.lo
  obtain ⟨nxD, smD⟩ := hidden z.sim { cls := .type "dict", data := .dict #[] }
  have hD : (s.heap.push { cls := .type "dict", data := .dict #[] }).DictOf (PySem.strKind C.prog C.w) s.heap.objs.size [] := Heap.DictOf.new _
  refine wpAny_Dict_walk (knd := PySem.strKind C.prog C.w) rfl rfl (by simp) (by simp) ?_
  have z0 : At0 C n sc ρ st A env g ads { s with heap := s.heap.push { cls := .type "dict", data := .dict #[] } } := z.next nxD smD
  have str1 : ∀ (k : Str) (c : Nat) (p : Pos) (s' : Shared) (Q' : Value → Shared → Prop), (∀ t, Q' (.str k t) { s' with toks := s'.toks + 1 }) → (∀ t, Q' (.str k t) s') → wpAny (model C.prog C.w) A (eval (.Constant (.str k) c p) env) Q' No s' := fun k c p s' Q' a b => by
    intro Γ p hΓ
    exact a _
  have key : ∀ (k : Str) (c : Nat) (p : Pos) (g : Fz) (ads : List Addr) (s' : Shared) (st' : List PObj) (R : Value → Shared → Prop), At0 C n sc ρ st' A env g ads s' → (∀ v s'' g'' ads'', At0 C n sc ρ st' A env g'' ads'' s'' → Nx [] g ads s'.heap g'' ads'' s''.heap → s'' = { s' with heap := s''.heap, toks := s''.toks } → v.isStrOf k = true → R v s'') →
      wpAny (model C.prog C.w) A (eval (.Constant (.str k) c p) env) R No s' := fun k c p g ads s' st' R z' kk => by
    refine then_ (W.str (Q := fun v st'' => v = .str k ∧ st'' = st') ⟨rfl, rfl⟩) z' fun v s₁ g₁ ads₁ pv st₁ z₁ x₁ e₁ vr q => ?_
    obtain ⟨rfl, rfl⟩ := q
    cases vr
    exact kk _ _ _ _ z₁ x₁ e₁ (by simp [Value.isStrOf])
  refine pairTrees_cons_walk (key _ _ _ _ _ _ _ _ z0 fun v1 s1 g1 ads1 z1 x1 ee1 hv1 => then_ h (by exact z1) fun va s2 g2 ads2 a st2 z2 x2 ee2 vra q2 => ?_)
  refine pairTrees_cons_walk (key _ _ _ _ _ _ _ _ z2 fun v2 s3 g3 ads3 z3 x3 ee3 hv2 => then_ q2 z3 fun vb s4 g4 ads4 b st4 z4 x4 ee4 vrb q4 => ?_)
  refine pairTrees_nil_walk ?_
  have nx : Nx [] g ads (s.heap.push { cls := .type "dict", data := .dict #[] }) g4 ads4 s4.heap := ((x1.trans x2).trans x3).trans x4
  have nD0 : s.heap.objs.size ∉ ads := z.sim.ads_fresh fD
  have gD0 : g s.heap.objs.size = none := z.sim.gfresh fD
  obtain ⟨oD, eD⟩ : ∃ o, (s.heap.push { cls := .type "dict", data := .dict #[] }).get? s.heap.objs.size = some o := ⟨_, Heap.get?_push_size _ rfl⟩
  obtain ⟨nD, gD⟩ := nx.off nD0 gD0 eD
  have hD4 : s4.heap.DictOf (PySem.strKind C.prog C.w) s.heap.objs.size [] := hD.at fun o e => nx.keep _ _ nD0 (by simp) e
  refine ⟨[(k1, va), (k2, vb)], ⟨hv1, rfl, hv2, rfl, trivial⟩, hD4, fun h' hm hs => ?_⟩
  have em : merged [] [(k1, va), (k2, vb)] = [(k1, va), (k2, vb)] := by simp [merged, stored, hne]
  rw [em] at hm
  obtain ⟨ep, hat⟩ := hm.dictAt
  have ee : s4 = { s with heap := s4.heap, toks := s4.toks } := by rw [ee4, ee3, ee2, ee1]
  have sm' : Sim C.pw g4 ads4 st4 h' := z4.sim.ext fun b o hb e => hs.extBut b o (fun r => by
    subst r
    rcases hb with hb | hb
    · exact nD hb
    · exact hb gD) e
  have idx : ∀ (n : Nat) (a : Addr), ads4[n]? = some a → (ads4 ++ [s.heap.objs.size])[n]? = some a := fun n a e => by
    obtain ⟨hl, _⟩ := List.getElem?_eq_some_iff.mp e
    rw [List.getElem?_append_left hl]; exact e
  have vra4 := ((vra.mono x3.gsub x3.idx).mono x4.gsub x4.idx).mono (g' := g4) (ads' := ads4 ++ [s.heap.objs.size]) (fun a b e => e) idx
  have vrb4 := vrb.mono (g' := g4) (ads' := ads4 ++ [s.heap.objs.size]) (fun a b e => e) idx
  refine ⟨g4, ads4 ++ [s.heap.objs.size], .loc st4.length, st4 ++ [.sd [(k1, a), (k2, b)] ep], ?_, adoptO sm' nD gD lo (.sd hat (.cons vra4 (.cons vrb4 .nil))), .loc (by rw [← z4.sim.len]; simp), q4 ep, by rw [ee]⟩
  refine Nx.adopt (Nx.finish (own := [s.heap.objs.size]) (own' := []) (h₁ := s4.heap) ((nxD.trans nx).weaken fun a ha => by simp at ha) (fun b hb => by rw [List.mem_singleton.mp hb]; exact fD) fun b o hb e => hs.extBut b o (fun r => hb (by rw [r]; exact .head _)) e) fD
end
noncomputable def strGt (x y : Str) : Bool := decide (y.cps.toList < x.cps.toList)
noncomputable def gt3 (i : Int) (x : Str) (j : Int) (i' : Int) (x' : Str) (j' : Int) : Bool := if (i == i') = true then (if (x == x') = true then decide (j > j') else strGt x x') else decide (i > i')
section
variable {prog : Program} {w : World} {A : Around} {E : Value → Shared → Prop} {s : Shared}
theorem rich_gt_int {a b : Int} {t u : Tok} {Q : Value → Shared → Prop} (h : Q (.bool (decide (a > b))) s) : wpAny (model prog w) A (richCompare .Gt (.int a t) (.int b u)) Q E s := gt_int (prog := prog) (w := w) h
theorem rich_gt_str {x y : Str} {t u : Tok} {Q : Value → Shared → Prop} (h : Q (.bool (strGt x y)) s) : wpAny (model prog w) A (richCompare .Gt (.str x t) (.str y u)) Q E s := by
  exact wpAny_richCompare_same (op := .Gt) (T := "str") (typeIs_str s x t) (typeIs_str s y u) F.slot_str_gt
    (wpAny_call_entry F.slot_str_gt (typeIs_str s x t) F.entry_str_gt (show wpAny _ _ (ret (.bool (x.cps.toList > y.cps.toList))) _ _ s from wpAny_pure ⟨_, rfl, by simp, h⟩) (F.args_str_gt_2 _ _))
theorem gt_tuple3 {a b : Addr} {i i' j j' : Int} {x x' : Str} {t1 t2 t3 u1 u2 u3 : Tok} {Q : Value → Shared → Prop} (hu : A.units < cLine) (ha : s.heap.IsTuple a #[.int i t1, .str x t2, .int j t3]) (hb : s.heap.IsTuple b #[.int i' u1, .str x' u2, .int j' u3])
    (h : Q (.bool (gt3 i x j i' x' j')) s) : wpAny (model prog w) A (compareOp .Gt (.ref a) (.ref b)) Q E s := by
  show wpAny _ _ (richCompare .Gt (.ref a) (.ref b)) Q E s
  obtain ⟨oa, hoa, hca, na, hda⟩ := id ha
  obtain ⟨ob, hob, hcb, nb, hdb⟩ := id hb
  refine wpAny_richCompare_same_or (op := .Gt) (T := "tuple") ha.typeIs hb.typeIs F.slot_tuple_gt (wpAny_call_entry F.slot_tuple_gt ha.typeIs F.entry_tuple_gt ?_ (F.args_tuple_gt_2 _ _)) (.inr hu)
  show wpAny _ _ (isInstance (.ref b) (.type "tuple") >>= _) _ _ s
  refine wpAny_bind (wpAny_isInstance hb.typeIs isSubtype_tuple_tuple ?_)
  simp only [Bool.not_true, Bool.false_eq_true, if_false]
  refine wpAny_bind (wpAny_tupleItemsOf hoa hda ?_)
  refine wpAny_bind (wpAny_tupleItemsOf hob hdb ?_)
  simp only [List.zip_cons_cons, List.zip_nil_right, List.forIn_cons, List.forIn_nil]
  unfold gt3 at h
  refine wpAny_bind (wpAny_bind (wpAny_bind (wpAny_eqBool_int ?_)))
  by_cases e1 : (i == i') = true
  · rw [if_pos e1] at h
    rw [e1]
    simp only [Bool.not_true, Bool.false_eq_true, if_false]
    refine wpAny_pure ?_
    simp only
    refine wpAny_bind (wpAny_bind (PyProof.Rows.eqBool_str ?_))
    by_cases e2 : (x == x') = true
    · rw [if_pos e2] at h
      rw [e2]
      simp only [Bool.not_true, Bool.false_eq_true, if_false]
      refine wpAny_pure ?_
      simp only
      refine wpAny_bind (wpAny_bind (wpAny_eqBool_int ?_))
      by_cases e3 : (j == j') = true
      · rw [e3]
        simp only [Bool.not_true, Bool.false_eq_true, if_false]
        refine wpAny_pure ?_
        simp only
        refine wpAny_pure ?_
        simp only
        have ej : j = j' := eq_of_beq e3
        have : decide (j > j') = false := by rw [ej]; simp
        rw [this] at h
        exact wpAny_pure ⟨_, rfl, by simp [Builtin.Tuple.tupleCompareSizes], by simpa [Builtin.Tuple.tupleCompareSizes] using h⟩
      · have e3' : (j == j') = false := by simpa using e3
        rw [e3']
        simp only [Bool.not_false, if_true]
        refine wpAny_bind (wpAny_rule (wpAny_bind (rich_gt_int (wpAny_bind (wpAny_pure (wpAny_pure ?_))))))
        simp only
        refine wpAny_pure ?_
        simp only
        exact wpAny_pure ⟨_, rfl, by simp, h⟩
    · have e2' : (x == x') = false := by simpa using e2
      rw [if_neg e2] at h
      rw [e2']
      simp only [Bool.not_false, if_true]
      refine wpAny_bind (wpAny_rule (wpAny_bind (rich_gt_str (wpAny_bind (wpAny_pure (wpAny_pure ?_))))))
      simp only
      refine wpAny_pure ?_
      simp only
      exact wpAny_pure ⟨_, rfl, by simp, h⟩
  · have e1' : (i == i') = false := by simpa using e1
    rw [if_neg e1] at h
    rw [e1']
    simp only [Bool.not_false, if_true]
    refine wpAny_bind (wpAny_rule (wpAny_bind (rich_gt_int (wpAny_bind (wpAny_pure (wpAny_pure ?_))))))
    simp only
    refine wpAny_pure ?_
    simp only
    exact wpAny_pure ⟨_, rfl, by simp, h⟩
end
section
variable {C : Ctx0} {n : Nat} {sc : Scope} {ρ : List (Str × PV)} {st : List PObj} {Q : Post} {Qn : PostN} {Qr : Post}
theorem Op2.gtT3 {i j i' j' : Int} {x x' : Str} (q : Q (.bool (gt3 i x j i' x' j')) st) : Op2 C n (compareOp .Gt) (.tup [.int i, .str x, .int j]) (.tup [.int i', .str x', .int j']) st Q := by
  intro A g ads s va vb hA base z x y
  cases x with
  | tup ga ra =>
    cases y with
    | tup gb rb =>
      cases ra with
      | cons a1 ra => cases ra with
        | cons a2 ra => cases ra with
          | cons a3 ra =>
            cases ra; cases a1; cases a2; cases a3
            cases rb with
            | cons a1 rb => cases rb with
              | cons a2 rb => cases rb with
                | cons a3 rb =>
                  cases rb; cases a1; cases a2; cases a3
                  exact gt_tuple3 (by have := hA.un; omega) ⟨_, z.gh _ _ ga, rfl, _, rfl⟩ ⟨_, z.gh _ _ gb, rfl, _, rfl⟩ (Res.here0 z (.bool _) q)
end
theorem list_keys_miss : typeLookup (.type "list") (Str.ofString "keys") = pure none := by rw [typeLookup_type, builtinLookup_eq_fast]; kernel_rfl
theorem list_no_keys {prog : Program} {w : World} {A : Around} {E : Value → Shared → Prop} {s : Shared} {a : Addr} {xs : Array Value} {k : Nat} {Q : Option Value → Shared → Prop}
    (hx : s.heap.get? a = some { cls := .type "list", data := .seq xs k }) (hA : A.handled = none)
    (h : ∀ h' tk, (∀ b o, s.heap.get? b = some o → h'.get? b = some o) → Q none { s with heap := h', toks := tk }) : wpAny (model prog w) A (getAttr? (.ref a) "keys") Q E s := by
  obtain ⟨hp, g, d, tk, os⟩ := s
  have hT : ∀ tk', (⟨hp, g, d, tk', os⟩ : Shared).TypeIs (.ref a) "list" := fun _ => ⟨_, hx, rfl⟩
  have f1 := sub_AttributeError
  have f3 := F.slot_list_getattribute.lookup
  have f4 := F.slot_list_getattribute.bind (.ref a)
  have f5 := am_list_getattr_none
  unfold getAttr? getAttrBy? getAttrBy
  repeat (any_goals (first | assumption | exact hT _ | ((with_reducible show wpAny _ _ (call (Value.builtin "list.__getattribute__") _ _) _ _ _); refine call_meets F.slot_list_getattribute (hT _) am_entry_list_getattribute (F.args_list_getattribute_2 _ _) (meets_getattribute_miss_list a xs k #[] "keys" _ list_keys_miss (by decide) (by size_fits)) ⟨hx, hA, fun h' tk' e hx' => ?_⟩) | wp_step))
  obtain ⟨t', u', he⟩ := hx'.there
  have hE : ∀ tk', (⟨h', g, d, tk', os⟩ : Shared).TypeIs (.ref e) "AttributeError" := fun _ => ⟨_, he, rfl⟩
  show wpAny _ _ (getattributeRaised _ _ _ _ _ _ _) _ _ _
  unfold getattributeRaised
  repeat (any_goals (first | assumption | exact hE _ | wp_step))
  all_goals exact h _ _ hx'.of.keeps

theorem entry_update_loop : entryFor table "dict.update.loop" = some Builtin.«dict.update.loop» := entryFor_of_tree (by kernel_rfl)
theorem plain_update_loop : plainId "dict.update.loop" = true := by decide +kernel

inductive TP (h : Heap) (no : List Addr) : List Value → List (Str × Value) → Prop
  | nil : TP h no [] []
  | cons {a : Addr} {k : Str} {t : Tok} {x : Value} {vs : List Value} {kvs : List (Str × Value)} : h.IsTuple a #[.str k t, x] → a ∉ no → TP h no vs kvs → TP h no (.ref a :: vs) ((k, x) :: kvs)
theorem TP.ext {h h' : Heap} {no : List Addr} {vs : List Value} {kvs : List (Str × Value)} (x : TP h no vs kvs) (e : ∀ b o, b ∉ no → h.get? b = some o → h'.get? b = some o) : TP h' no vs kvs := by
  induction x with
  | nil => exact .nil
  | cons h1 h2 _ ih => exact .cons (tup_at h1 fun o => e _ o h2) h2 ih

theorem update_loop {prog : Program} {w : World} {A : Around} {d it ax : Addr} {all : List Value} (hh : A.handled = none) (hdi : d ≠ it) (hda : ax ≠ d) (hia : ax ≠ it) : ∀ (rest : List Value) (kvs done : List (Str × Value)) (i : Nat) (s : Shared) (R : Result → Shared → Prop),
    all.drop i = rest → i ≤ all.length → s.heap.IsListIter it ax i → s.heap.IsList ax all.toArray → TP s.heap [d, it] rest kvs → s.heap.DictOf (PySem.strKind prog w) d done → done.length + kvs.length ≤ sizeLine →
    (∀ h' tk, (∀ b o, b ∉ [d, it] → s.heap.get? b = some o → h'.get? b = some o) → h'.DictOf (PySem.strKind prog w) d (merged done kvs) → R (.ok (.ret .none)) { s with heap := h', toks := tk }) →
    codeAny (model prog w) A (.builtin "dict.update.loop" ⟨[.ref d, .ref it, rawInt i, .none], []⟩) R s := by
  intro rest
  induction rest with
  | nil =>
    intro kvs done i s R hd hi hit hl tp hm hsz k
    cases tp
    refine codeAny_builtin entry_update_loop ?_
    rw [Around.under_plainId plain_update_loop _]
    show wpAny _ _ (pyNext (.ref it) >>= _) _ _ s
    have hn : all.length ≤ i := by
      have := congrArg List.length hd
      simp at this; omega
    refine wpAny_bind (wpAny_pyNext_list_end hh hit hl (by simp; omega) fun h' he => ?_)
    refine wpAny_bind (wpAny_pure ?_)
    refine wpAny_pure ?_
    exact k h' s.toks (fun b o hb e => he b o (fun q => hb (by rw [q]; exact .tail _ (.head _))) e) (hm.extBut he hdi)
  | cons v rest ih =>
    intro kvs done i s R hd hi hit hl tp hm hsz k
    cases tp with
    | @cons a key t x _ kvs h1 h2 tp =>
      refine codeAny_builtin entry_update_loop ?_
      rw [Around.under_plainId plain_update_loop _]
      show wpAny _ _ (pyNext (.ref it) >>= _) _ _ s
      have hlt : i < all.length := by
        have := congrArg List.length hd
        simp at this; omega
      have hv : all[i]? = some (.ref a) := by
        have e1 := congrArg (fun l => l[0]?) hd
        simpa using e1
      refine wpAny_bind (wpAny_pyNext_list_item hit hl (x := .ref a) (by simpa using hv) fun h₁ hit₁ hs₁ => ?_)
      have aI : a ≠ it := fun q => h2 (by rw [q]; exact .tail _ (.head _))
      have aD : a ≠ d := fun q => h2 (by rw [q]; exact .head _)
      have ht₁ : h₁.IsTuple a #[.str key t, x] := h1.extBut hs₁.extBut aI
      obtain ⟨oa, hoa, hca, na, hda'⟩ := id ht₁
      refine wpAny_bind (wpAny_holding ?_)
      refine wpAny_bind (wpAny_tryCatch ?_)
      unfold Builtin.Dict.pairItems
      refine wpAny_bind (wpAny_typeOf ht₁.typeIs ?_)
      rw [if_pos (by decide)]
      refine wpAny_bind (wpAny_seqItems hoa hda' ?_)
      refine wpAny_pure ?_
      show wpAny _ _ (holding [Value.str key t, x] (dictSet d (.str key t) x)) _ _ _
      have hm₁ : h₁.DictOf (PySem.strKind prog w) d done := hm.extBut hs₁.extBut hdi
      rw [List.length_cons] at hsz
      refine wpAny_holding (wpAny_dictSet_pairs (knd := PySem.strKind prog w) (k := key) (by simp [PySem.strKind, Value.isStrOf]) hm₁ (fun h₂ hm₂ hs₂ => ?_) (by walk_at "om"))
      refine wpAny_pure ⟨Code.quiet_builtin _ (by decide +kernel), ?_⟩
      have ei : rawInt ((i : Int) + 1) = rawInt ((i + 1 : Nat) : Int) := by congr 1
      rw [ei]
      refine ih kvs (stored done key x) (i + 1) _ R ?_ hlt (hit₁.extBut hs₂.extBut (Ne.symm hdi)) ((hl.extBut hs₁.extBut hia).extBut hs₂.extBut hda) ?_ hm₂ ?_ fun h' tk e hm' => ?_
      · rw [← List.tail_drop, hd]; rfl
      · exact (tp.ext fun b o hb e => hs₁.extBut b o (fun q => hb (by rw [q]; exact .tail _ (.head _))) e).ext fun b o hb e => hs₂.extBut b o (fun q => hb (by rw [q]; exact .head _)) e
      · have := stored_length_le done key x
        omega
      · refine k h' tk (fun b o hb eo => e b o hb (hs₂.extBut b o (fun q => hb (by rw [q]; exact .head _)) (hs₁.extBut b o (fun q => hb (by rw [q]; exact .tail _ (.head _))) eo))) ?_
        exact hm'

theorem wants_ok {Q : Value → Shared → Prop} {E : Value → Shared → Prop} {v : Value} {s : Shared} (h : Q v s) : wants Q E (.ok (.ret v)) s := h

section
variable {C : Ctx0} {n : Nat} {sc : Scope} {ρ : List (Str × PV)} {st : List PObj} {Q : Post} {Qn : PostN} {Qr : Post}

theorem pairs_TP {g : Fz} {ads no : List Addr} {h : Heap} (hg : ∀ a o, g a = some o → h.get? a = some o) (hno : ∀ b ∈ no, g b = none) : ∀ {l : List (Str × PV)} {vs : List Value}, VRs g ads vs (l.map fun x => .tup [.str x.1, x.2]) → ∃ kvs, TP h no vs kvs ∧ VRk g ads kvs l := by
  intro l
  induction l with
  | nil => intro vs x; cases x; exact ⟨[], .nil, .nil⟩
  | cons p l ih =>
    intro vs x
    cases x with
    | cons h1 h2 =>
      obtain ⟨kvs, a1, a2⟩ := ih h2
      cases h1 with
      | tup ga r =>
        cases r with
        | cons r1 r => cases r with
          | cons r2 r =>
            cases r; cases r1
            refine ⟨_ :: kvs, .cons ⟨_, hg _ _ ga, rfl, _, rfl⟩ (fun hm => ?_) a1, .cons r2 a2⟩
            rw [hno _ hm] at ga; cases ga

theorem OpN.dictP {i : Nat} {l : List (Str × PV)} (hi : st[i]? = some (.list (l.map fun x => .tup [.str x.1, x.2]))) (hz : l.length ≤ 1000000) (hn : (l.map (·.1)).Nodup) (q : ∀ ep, Q (.loc st.length) (st ++ [.sd l ep])) : OpN C n (fun vs => PySem.call (.type "dict") vs) [.loc i] st Q := by
  intro A g ads s vs hA base z x
  cases x with
  | cons x r =>
    cases r
    obtain ⟨a, rfl, ha, o⟩ := z.ref x hi
    cases o with
    | @list vs k _ e r =>
      have hlen := r.length
      rw [List.length_map] at hlen
      refine callType_codes (Q₁ := fun obj s₁ => obj = .ref s.heap.objs.size ∧ s₁ = { s with heap := s.heap.push { cls := .type "dict", data := .dict #[] } }) F.kt_called_dict (F.kt_typeCall_dict_1 _) F.entry_dict_init (kt_code_dict_new _ ⟨rfl, rfl⟩) ?_
      rintro obj s₁ ⟨rfl, rfl⟩
      have fD : s.heap.get? s.heap.objs.size = none := fresh_none
      have hnew : (s.heap.push { cls := .type "dict", data := .dict #[] }).DictOf (PySem.strKind C.prog C.w) s.heap.objs.size [] := Heap.DictOf.new s.heap
      have ho' : (s.heap.push { cls := .type "dict", data := .dict #[] }).get? a = some { cls := .type "list", data := .seq vs.toArray k } := Heap.get?_push_of_some _ e
      refine ⟨hnew.typeIs, F.args_dict_init_2 _ _, ?_⟩
      unfold Builtin.«dict.__init__»
      refine wpAny_bind ?_
      unfold Builtin.Dict.selfAndRest
      refine wpAny_bind (wpAny_notOrdered_dict hnew.typeIs ?_)
      show wpAny _ _ (pure (s.heap.objs.size, [Value.ref a])) _ _ _
      refine wpAny_pure ?_
      show wpAny _ _ (Builtin.Dict.updateFrom "dict.__init__" s.heap.objs.size (.ref a) [] .none) _ _ _
      unfold Builtin.Dict.updateFrom
      refine wpAny_bind (wpAny_typeOf (T := "list") ⟨_, ho', rfl⟩ ?_)
      rw [if_pos (by decide)]
      refine wpAny_bind (list_no_keys ho' hA.hh fun h₁ tk₁ k₁ => ?_)
      simp only [Option.isNone_none, if_true]
      refine wpAny_bind (wpAny_rule ?_)
      have ext₁ : ∀ b o, s.heap.get? b = some o → h₁.get? b = some o := fun b o e => k₁ b o (Heap.get?_push_of_some _ e)
      have hl₁ : h₁.IsList a vs.toArray := ⟨_, ext₁ _ _ e, rfl, _, rfl⟩
      have hD₁ : h₁.DictOf (PySem.strKind C.prog C.w) s.heap.objs.size [] := hnew.at fun o e => k₁ _ _ e
      refine wpAny_bind (wpAny_pyIter_list hl₁ ?_)
      have ltD : s.heap.objs.size < h₁.objs.size := by
        obtain ⟨o, _, _, ho, _⟩ := hD₁
        exact Heap.lt_size ho
      have lta : a < s.heap.objs.size := Heap.lt_size e
      have fI : s.heap.get? h₁.objs.size = none := fresh_get (Nat.le_of_lt ltD)
      obtain ⟨kvs, tp, vrk⟩ := pairs_TP (no := [s.heap.objs.size, h₁.objs.size]) z.gh (fun b hb => by
        rcases List.mem_cons.mp hb with rfl | hb
        · exact z.gfresh fD
        · rw [List.mem_singleton.mp hb]; exact z.gfresh fI) r
      have hkl := vrk.length
      refine wpAny_pure ⟨Code.quiet_builtin _ (by decide +kernel), ?_⟩
      refine update_loop (all := vs) (ax := a) (by exact hA.hh) (Nat.ne_of_lt ltD) (Nat.ne_of_lt lta) (Nat.ne_of_lt (Nat.lt_trans lta ltD)) vs kvs [] 0 _ _ (by simp) (Nat.zero_le _) ⟨_, Heap.get?_push_size _ rfl, rfl, rfl⟩ (hl₁.push _) (tp.ext fun b o hb e => Heap.get?_push_of_some _ (ext₁ _ _ e)) (hD₁.push _) (by rw [sizeLine_is, List.length_nil]; omega) fun h' tk ext hm => ?_
      refine wants_ok ⟨rfl, ?_⟩
      rw [merged_nil_of_nodup kvs (by rw [vrk.keys]; exact hn)] at hm
      obtain ⟨ep, hat⟩ := hm.dictAt
      have ext' : ∀ b o, s.heap.get? b = some o → h'.get? b = some o := fun b o e => ext b o (fun hm => by
        rcases List.mem_cons.mp hm with q | q
        · rw [q, fD] at e; cases e
        · rw [List.mem_singleton.mp q, fI] at e; cases e) (Heap.get?_push_of_some _ (ext₁ b o e))
      obtain ⟨nx, sm⟩ := grow_nx z ext'
      have idx : ∀ (n : Nat) (a : Addr), ads[n]? = some a → (ads ++ [s.heap.objs.size])[n]? = some a := fun n a e => by
        obtain ⟨hl, _⟩ := List.getElem?_eq_some_iff.mp e
        rw [List.getElem?_append_left hl]; exact e
      exact ⟨g, ads ++ [s.heap.objs.size], .loc st.length, st ++ [.sd l ep], nx.adopt fD, adoptO sm (z.ads_fresh fD) (z.gfresh fD) (lo_of base z) (.sd hat (vrk.mono (fun a b e => e) idx)), .loc (by rw [← z.len]; simp), q ep, rfl⟩
end
/-- what lies in the store stays, save at the places named -/
noncomputable def KO (S : List Nat) (st st' : List PObj) : Prop := st.length ≤ st'.length ∧ ∀ (j : Nat) (po : PObj), j ∉ S → st[j]? = some po → st'[j]? = some po
theorem KO.refl (S : List Nat) (st : List PObj) : KO S st st := ⟨Nat.le_refl _, fun _ _ _ e => e⟩
theorem KO.trans {S : List Nat} {a b c : List PObj} (x : KO S a b) (y : KO S b c) : KO S a c := ⟨Nat.le_trans x.1 y.1, fun j po h e => y.2 j po h (x.2 j po h e)⟩
theorem KO.up {S T : List Nat} {a b : List PObj} (x : KO S a b) (h : ∀ j ∈ S, j ∈ T) : KO T a b := ⟨x.1, fun j po hj e => x.2 j po (fun q => hj (h j q)) e⟩
theorem KO.any {T : List Nat} {a b : List PObj} (x : KO [] a b) : KO T a b := x.up fun _ h => by simp at h
theorem KO.app (S : List Nat) (st gb : List PObj) : KO S st (st ++ gb) := ⟨by simp, fun j po _ e => by
  obtain ⟨l, _⟩ := List.getElem?_eq_some_iff.mp e
  rw [List.getElem?_append_left l]; exact e⟩
theorem KO.set (st : List PObj) (i : Nat) (po : PObj) : KO [i] st (st.set i po) := ⟨by simp, fun j p h e => by
  rw [List.getElem?_set_ne (fun q => h (by rw [q]; exact .head _))]; exact e⟩
theorem KO.get {st st' : List PObj} (x : KO [] st st') {j : Nat} {po : PObj} (e : st[j]? = some po) : st'[j]? = some po := x.2 j po (by simp) e
theorem get_new {st : List PObj} {po : PObj} : (st ++ [po])[st.length]? = some po := by simp
theorem get_set {st : List PObj} {i : Nat} {po po' : PObj} (e : st[i]? = some po) : (st.set i po')[i]? = some po' := by
  obtain ⟨l, _⟩ := List.getElem?_eq_some_iff.mp e
  rw [List.getElem?_set_self l]
theorem get_lt {st : List PObj} {i : Nat} {po : PObj} (e : st[i]? = some po) : i < st.length := (List.getElem?_eq_some_iff.mp e).1
theorem get_app {st gb : List PObj} {i : Nat} {po : PObj} (e : st[i]? = some po) : (st ++ gb)[i]? = some po := by
  rw [List.getElem?_append_left (get_lt e)]; exact e

theorem AOk.le {A : Around} {n m : Nat} (x : AOk A n) (h : m ≤ n) : AOk A m := ⟨x.hh, by have := x.dp; omega, by have := x.un; omega⟩
section
variable {C : Ctx0} {n : Nat} {sc : Scope} {ρ : List (Str × PV)} {st : List PObj}
theorem Res.mono {P : PW} {own : List Addr} {g : Fz} {ads : List Addr} {s : Shared} {Q Q' : Post} {v : Value} {s' : Shared} (h : ∀ p st', Q p st' → Q' p st') (r : Res P own g ads s Q v s') : Res P own g ads s Q' v s' := by
  obtain ⟨g', ads', pv, st', y, z, vr, q, e'⟩ := r
  exact ⟨g', ads', pv, st', y, z, vr, h _ _ q, e'⟩
theorem CF.mono {f : Addr} {ps : List PV} {Q Q' : Post} (x : CF C n f ps st Q) (h : ∀ v st', Q v st' → Q' v st') : CF C n f ps st Q' := fun A g ads s vs a b z v =>
  wpAny_mono (x A g ads s vs a b z v) (fun _ _ r => r.mono h) fun a b f => f
theorem CF.go {f : Addr} {ps : List PV} {Q : Post} {p : PV} {R : List PObj → Prop} {m : Nat} (x : CF C n f ps st (fun v st' => v = p ∧ R st')) (h : n ≤ m) (k : ∀ st', R st' → Q p st') : CF C m f ps st Q := fun A g ads s vs a b z v =>
  wpAny_mono (x A g ads s vs (a.le h) b z v) (fun _ _ r => r.mono fun v st' hv => by rw [hv.1]; exact k st' hv.2) fun a b f => f
theorem CF.go3 {f : Addr} {ps : List PV} {Q : Post} {p : PV} {R S : List PObj → Prop} {m : Nat} (x : CF C n f ps st (fun v st' => v = p ∧ R st' ∧ S st')) (h : n ≤ m) (k : ∀ st', R st' → S st' → Q p st') : CF C m f ps st Q := CF.go x h fun st' r => k st' r.1 r.2
theorem CF.go0 {f : Addr} {ps : List PV} {Q : Post} {p : PV} {q : List PObj} {m : Nat} (x : CF C n f ps st (fun v st' => v = p ∧ st' = q)) (h : n ≤ m) (k : Q p q) : CF C m f ps st Q := CF.go x h fun st' r => r ▸ k
theorem CF.goL {f : Addr} {ps : List PV} {Q : Post} {R S : Nat → List PObj → Prop} {m : Nat} (x : CF C n f ps st (fun v st' => ∃ k, v = .loc k ∧ R k st' ∧ S k st')) (h : n ≤ m) (k : ∀ i st', R i st' → S i st' → Q (.loc i) st') : CF C m f ps st Q := fun A g ads s vs a b z v =>
  wpAny_mono (x A g ads s vs (a.le h) b z v) (fun _ _ r => r.mono fun v st' ⟨i, e, r1, r2⟩ => by rw [e]; exact k i st' r1 r2) fun a b f => f
theorem CF.up {f : Addr} {ps : List PV} {Q : Post} {m : Nat} (x : CF C n f ps st Q) (h : n ≤ m) : CF C m f ps st Q := fun A g ads s vs a b z v => x A g ads s vs (a.le h) b z v
end

section
variable {C : Ctx0} {n : Nat} {sc : Scope} {ρ ρ' : List (Str × PV)} {st : List PObj}
theorem W.rho {x : Expr} {Q : Post} (e : ρ = ρ') (h : W C n sc x ρ' st Q) : W C n sc x ρ st Q := e ▸ h
theorem X.rho {x : List Stmt} {Qn : PostN} {Qr : Post} (e : ρ = ρ') (h : X C n sc x ρ' st Qn Qr) : X C n sc x ρ st Qn Qr := e ▸ h
end

theorem len0 {P : List Value → Prop} (h : P []) : ∀ vs : List Value, vs.length = 0 → P vs := fun vs e => List.eq_nil_of_length_eq_zero e ▸ h
theorem lenS {P : List Value → Prop} {n : Nat} (h : ∀ a, ∀ vs : List Value, vs.length = n → P (a :: vs)) : ∀ vs : List Value, vs.length = n + 1 → P vs := fun vs e => by
  obtain ⟨a, l, e1⟩ := List.exists_cons_of_length_eq_add_one e
  rw [e1] at e ⊢
  exact h a l (Nat.succ.inj e)
theorem len1 {P : List Value → Prop} (h : ∀ a, P [a]) : ∀ vs : List Value, vs.length = 1 → P vs := lenS fun a => len0 (h a)
theorem len2 {P : List Value → Prop} (h : ∀ a b, P [a, b]) : ∀ vs : List Value, vs.length = 2 → P vs := lenS fun a => len1 (h a)
theorem len3 {P : List Value → Prop} (h : ∀ a b c, P [a, b, c]) : ∀ vs : List Value, vs.length = 3 → P vs := lenS fun a => len2 (h a)
theorem len4 {P : List Value → Prop} (h : ∀ a b c d, P [a, b, c, d]) : ∀ vs : List Value, vs.length = 4 → P vs := lenS fun a => len3 (h a)

/-! ## the patterns as data -/
noncomputable def tm : Tm → PV
  | .L l => .tup [.str l.str]
  | .F t => .tup [.str (Str.ofString "f"), tm t]
  | .G s t => .tup [.str (Str.ofString "g"), tm s, tm t]
noncomputable def opOf : Tm → Str
  | .L l => l.str
  | .F _ => Str.ofString "f"
  | .G _ _ => Str.ofString "g"
noncomputable def kids : Tm → List Tm
  | .L _ => []
  | .F t => [t]
  | .G s t => [s, t]
theorem tm_eq (t : Tm) : tm t = .tup (.str (opOf t) :: (kids t).map tm) := by cases t <;> rfl
noncomputable def ht : Tm → Nat
  | .L _ => 1
  | .F t => ht t + 1
  | .G s t => max (ht s) (ht t) + 1
theorem kids_ht {t k : Tm} (h : k ∈ kids t) : ht k < ht t := by
  cases t with
  | L _ => simp [kids] at h
  | F t => simp [kids] at h; subst h; simp [ht]
  | G s t => simp [kids] at h; rcases h with rfl | rfl <;> simp [ht] <;> omega
theorem kids_len (t : Tm) : (kids t).length ≤ 2 := by cases t <;> simp [kids]
theorem tm_key : ∀ (t : Tm) (n : Nat), ht t ≤ n → keyOk n (tm t) = true
  | .L l, n + 1, _ => by cases l <;> (simp only [tm, keyOk, List.all_cons, List.all_nil, Bool.and_true]; cases n <;> (show PyData.strOk _ = true; decide +kernel))
  | .F t, n + 1, h => by
    have := tm_key t n (by simp [ht] at h; omega)
    simp only [tm, keyOk, List.all_cons, List.all_nil, Bool.and_true, this]
    cases n <;> (show PyData.strOk _ = true; decide +kernel)
  | .G s t, n + 1, h => by
    have h1 := tm_key s n (by simp [ht] at h; omega)
    have h2 := tm_key t n (by simp [ht] at h; omega)
    simp only [tm, keyOk, List.all_cons, List.all_nil, Bool.and_true, h1, h2]
    cases n <;> (show PyData.strOk _ = true; decide +kernel)
  | .L l, 0, h => by simp [ht] at h
  | .F t, 0, h => by simp [ht] at h
  | .G s t, 0, h => by simp [ht] at h
theorem str_inj : ∀ {a b : Lf}, a.str = b.str → a = b := by intro a b; cases a <;> cases b <;> decide
theorem tm_inj : ∀ {s t : Tm}, tm s = tm t → s = t
  | .L p, .L q, h => by simp [tm] at h; rw [str_inj h]
  | .L p, .F q, h => by simp [tm] at h
  | .L p, .G q q', h => by simp [tm] at h
  | .F p, .L q, h => by simp [tm] at h
  | .F p, .F q, h => by simp [tm] at h; rw [tm_inj h]
  | .F p, .G q q', h => by simp [tm] at h
  | .G p p', .L q, h => by simp [tm] at h
  | .G p p', .F q, h => by simp [tm] at h
  | .G p p', .G q q', h => by simp [tm] at h; rw [tm_inj h.1, tm_inj h.2]
theorem tm_eqv (a b : Tm) : PyData.eqv (toPy (tm a)) (toPy (tm b)) = decide (a = b) := by
  have := key_eqv _ (tm a) (tm b) _ (tm_key a _ (Nat.le_refl _)) (tm_key b _ (Nat.le_refl _))
  by_cases h : a = b
  · rw [decide_eq_true h]; exact this.mpr (by rw [h])
  · rw [decide_eq_false h]; exact Bool.eq_false_iff.mpr fun q => h (tm_inj (this.mp q))
section
variable {C : Ctx0} {n : Nat} {sc : Scope} {ρ : List (Str × PV)} {st : List PObj} {Q : Post}
theorem Wp.none (q : Q .none st) : Wp C n sc Option.none ρ st Q := q
theorem Wp.some {e : Expr} (h : W C n sc e ρ st Q) : Wp C n sc (Option.some e) ρ st Q := h
theorem OpN.lenM {t : Tm} (q : Q (.int (((kids t).length : Int) + 1)) st) : OpN C n (fun vs => PySem.call (.builtin "len") vs) [tm t] st Q := by
  rw [tm_eq]
  refine OpN.lenT (by have := kids_len t; simp; omega) ?_
  have : ((PV.str (opOf t) :: (kids t).map tm).length : Int) = ((kids t).length : Int) + 1 := by simp
  rw [this]; exact q
theorem ItemOp.tm0 {t : Tm} (q : Q (.str (opOf t)) st) : ItemOp C n (tm t) (.int 0) st Q := by
  rw [tm_eq]
  exact ItemOp.tup (k := 0) (by walk_at "om") rfl q
theorem ItemOp.tmK {t k : Tm} {i : Nat} (h : (kids t)[i]? = some k) (q : Q (tm k) st) : ItemOp C n (tm t) (.int ((i + 1 : Nat) : Int)) st Q := by
  rw [tm_eq]
  have hi : i < (kids t).length := (List.getElem?_eq_some_iff.mp h).1
  have := kids_len t
  exact ItemOp.tup (k := i + 1) (by walk_at "om") (by rw [List.getElem?_cons_succ, List.getElem?_map, h]; rfl) q
theorem SlOp.tm1 {t : Tm} (q : Q (.tup ((kids t).map tm)) st) : SlOp C n (tm t) (.int 1) .none st Q := by
  rw [tm_eq]
  have := kids_len t
  exact SlOp.from (a := 1) (Nat.le_refl _) (by simp) (by simp; omega) q
/-- an op's first letter -/
noncomputable def head1 : Tm → Str
  | .L .x => Str.ofString "?"
  | .L .y => Str.ofString "?"
  | t => opOf t
theorem slice_one (x : Str) (h : x.length = 1 ∨ x.length = 2) : ∀ u : Tok, slicePicked x none (some (1, u)) none = [0] := by
  intro u
  unfold slicePicked
  rcases h with h | h <;> rw [h] <;> rfl
theorem op_len (t : Tm) : (opOf t).length = 1 ∨ (opOf t).length = 2 := by
  cases t with
  | L l => cases l <;> decide +kernel
  | F _ => left; show (Str.ofString "f").length = 1; decide +kernel
  | G _ _ => left; show (Str.ofString "g").length = 1; decide +kernel
theorem slice_head (t : Tm) : (if (1 == (opOf t).length) = true then opOf t else ⟨([0].filterMap ((opOf t).cps[·]?)).toArray⟩ : Str) = head1 t := by
  cases t with
  | L l => cases l <;> decide +kernel
  | F _ => show (if (1 == (Str.ofString "f").length) = true then (Str.ofString "f") else ⟨([0].filterMap ((Str.ofString "f").cps[·]?)).toArray⟩ : Str) = Str.ofString "f"; decide +kernel
  | G _ _ => show (if (1 == (Str.ofString "g").length) = true then (Str.ofString "g") else ⟨([0].filterMap ((Str.ofString "g").cps[·]?)).toArray⟩ : Str) = Str.ofString "g"; decide +kernel
theorem SlOp.op1 {t : Tm} (q : Q (.str (head1 t)) st) : SlOp C n (.str (opOf t)) .none (.int 1) st Q := SlOp.toS (slice_one _ (op_len t)) (slice_head t) q
theorem item_head (t : Tm) : ((seqIndex? 0 (opOf t).length).bind ((opOf t).cps[·]?)).map (fun c => (⟨#[c]⟩ : Str)) = some (head1 t) := by
  cases t with
  | L l => cases l <;> decide +kernel
  | F _ => show ((seqIndex? 0 (Str.ofString "f").length).bind ((Str.ofString "f").cps[·]?)).map (fun c => (⟨#[c]⟩ : Str)) = some (Str.ofString "f"); decide +kernel
  | G _ _ => show ((seqIndex? 0 (Str.ofString "g").length).bind ((Str.ofString "g").cps[·]?)).map (fun c => (⟨#[c]⟩ : Str)) = some (Str.ofString "g"); decide +kernel
theorem ItemOp.op0 {t : Tm} (q : Q (.str (head1 t)) st) : ItemOp C n (.str (opOf t)) (.int 0) st Q := ItemOp.str (item_head t) q
theorem head_var (t : Tm) : (head1 t == Str.ofString "?") = isVar t := by
  cases t with
  | L l => cases l <;> decide +kernel
  | F _ => show (Str.ofString "f" == Str.ofString "?") = false; decide +kernel
  | G _ _ => show (Str.ofString "g" == Str.ofString "?") = false; decide +kernel
end
section
variable {C : Ctx0} {n : Nat} {sc : Scope} {ρ : List (Str × PV)} {st : List PObj} {Qn : PostN} {Qr : Post}

theorem Asg.mono {target : Expr} {p : PV} {Q Q' : PostN} (h : Asg C n sc target p ρ st Q) (hq : ∀ ρ' st', Q ρ' st' → Q' ρ' st') : Asg C n sc target p ρ st Q' := fun A env g ads s v z vr =>
  wpAny_mono (h A env g ads s v z vr) (fun _ s' ⟨g', ads', ρ', st', x, z', fr, q, e⟩ => ⟨g', ads', ρ', st', x, z', fr, hq _ _ q, e⟩) fun a b f => f
theorem AsgL.mono {target : Expr} {p : PV} {Q Q' : PostN} (h : AsgL C n sc target p ρ st Q) (hq : ∀ ρ' st', Q ρ' st' → Q' ρ' st') : AsgL C n sc target p ρ st Q' := fun A env g ads s v z vr =>
  wpAny_mono (h A env g ads s v z vr) (fun _ s' ⟨g', ads', ρ', st', x, z', fr, q, e⟩ => ⟨g', ads', ρ', st', x, z', fr, hq _ _ q, e⟩) fun a b f => f
theorem X.mono {b : List Stmt} {Q Q' : PostN} {R R' : Post} (h : X C n sc b ρ st Q R) (hq : ∀ ρ' st', Q ρ' st' → Q' ρ' st') (hr : ∀ v st', R v st' → R' v st') : X C n sc b ρ st Q' R' := fun A env g ads s z =>
  wpAny_mono (h A env g ads s z) (fun fl s' r => by
    cases fl with
    | next => obtain ⟨g', ads', ρ', st', x, z', fr, q, e⟩ := r; exact ⟨g', ads', ρ', st', x, z', fr, hq _ _ q, e⟩
    | ret v => exact r.mono hr
    | brk => exact r
    | cont => exact r) fun a b f => f
theorem Tst.mono {ifs : List Expr} {Q Q' : PostB} (h : Tst C n sc ifs ρ st Q) (hq : ∀ b st', Q b st' → Q' b st') : Tst C n sc ifs ρ st Q' := by
  unfold Tst at h ⊢
  split
  · exact hq _ _ h
  · exact fun A env g ads s z => wpAny_mono (h A env g ads s z) (fun b s' ⟨g', ads', st', x, z', q, e⟩ => ⟨g', ads', st', x, z', hq _ _ q, e⟩) fun a b f => f
  · rename_i h1 h2
    split at h
    · exact (h1 rfl).elim
    · exact (h2 _ rfl).elim
    · exact h

theorem Turns.inv {target : Expr} {body : List Stmt} {G : List PObj → Prop} {all : List PV} (Inv : Nat → List (Str × PV) → List PObj → Prop)
    (turn : ∀ i p ρ' st', all[i]? = some p → Inv i ρ' st' → G st' → Asg C n sc target p ρ' st' (fun ρ'' st'' => X C n sc body ρ'' st'' (fun ρ3 st3 => G st3 ∧ Inv (i + 1) ρ3 st3) Qr))
    (fin : ∀ ρ' st', Inv all.length ρ' st' → Qn ρ' st') : ∀ (ps : List PV) (i : Nat) (ρ : List (Str × PV)) (st : List PObj), all.drop i = ps → i ≤ all.length → Inv i ρ st → G st → Turns C n sc target body G Qn Qr ps ρ st := by
  intro ps
  induction ps with
  | nil =>
    intro i ρ st hd hi h hG
    have : i = all.length := by have := congrArg List.length hd; simp at this; omega
    subst this
    exact fin ρ st h
  | cons p ps ih =>
    intro i ρ st hd hi h hG
    have hp : all[i]? = some p := by have := congrArg (fun l => l[0]?) hd; simpa using this
    have hlt := (List.getElem?_eq_some_iff.mp hp).1
    refine (turn i p ρ st hp h hG).mono fun ρ' st' h' => h'.mono (fun ρ3 st3 q => ⟨q.1, ih (i + 1) ρ3 st3 ?_ hlt q.2 q.1⟩) fun _ _ q => q
    rw [← List.tail_drop, hd]; rfl
theorem X1.for_inv {target e : Expr} {body : List Stmt} {pos : Pos} (hs : ∀ env x, foldedSetIterable e env x = pure x)
    (h : WI C n sc target e ρ st (fun ps G st' => ∃ Inv : Nat → List (Str × PV) → List PObj → Prop, G st' ∧ Inv 0 ρ st' ∧
      (∀ i p ρ' st', ps[i]? = some p → Inv i ρ' st' → G st' → Asg C n sc target p ρ' st' (fun ρ'' st'' => X C n sc body ρ'' st'' (fun ρ3 st3 => G st3 ∧ Inv (i + 1) ρ3 st3) Qr)) ∧
      (∀ ρ' st', Inv ps.length ρ' st' → Qn ρ' st'))) : X1 C n sc (.For target e body [] pos) ρ st Qn Qr := by
  refine X1.for_ hs fun A env g ads s z => wpAny_mono (h A env g ads s z) (fun x s₁ h₁ => wpAny_mono h₁ (fun it s₂ h₂ => ?_) fun a b f => f) fun a b f => f
  obtain ⟨I, own, St, ps, G, g', ads', st', e1, wk, nx, sm, hst, fr, ⟨Inv, hG, h0, turn, fin⟩, e2⟩ := h₂
  exact ⟨I, own, St, ps, G, g', ads', st', e1, wk, nx, sm, hst, fr, ⟨hG, Turns.inv Inv turn fin ps 0 ρ st' rfl (Nat.zero_le _) h0 hG⟩, e2⟩

theorem CT.inv {target elt : Expr} {ifs : List Expr} {G : List PObj → Prop} {Q : List PV → List PObj → Prop} {all : List PV} (Inv : Nat → List (Str × PV) → List PV → List PObj → Prop)
    (turn : ∀ i p ρ' acc st', all[i]? = some p → Inv i ρ' acc st' → G st' → AsgL C n sc target p ρ' st' (fun ρ'' st'' => Tst C n sc ifs ρ'' st'' (fun b st₂ =>
      (b = true → W C n sc elt ρ'' st₂ (fun v st₃ => G st₃ ∧ Inv (i + 1) ρ'' (acc ++ [v]) st₃)) ∧ (b = false → G st₂ ∧ Inv (i + 1) ρ'' acc st₂))))
    (fin : ∀ ρ' acc st', Inv all.length ρ' acc st' → Q acc st') : ∀ (ps : List PV) (i : Nat) (ρ : List (Str × PV)) (acc : List PV) (st : List PObj), all.drop i = ps → i ≤ all.length → Inv i ρ acc st → G st → CT C n sc target elt ifs G Q ps ρ acc st := by
  intro ps
  induction ps with
  | nil =>
    intro i ρ acc st hd hi h hG
    have : i = all.length := by have := congrArg List.length hd; simp at this; omega
    subst this
    exact fin ρ acc st h
  | cons p ps ih =>
    intro i ρ acc st hd hi h hG
    have hp : all[i]? = some p := by have := congrArg (fun l => l[0]?) hd; simpa using this
    have hlt := (List.getElem?_eq_some_iff.mp hp).1
    have hd' : all.drop (i + 1) = ps := by rw [← List.tail_drop, hd]; rfl
    refine (turn i p ρ acc st hp h hG).mono fun ρ' st' h' => h'.mono fun b st₂ q => ⟨fun hb => (q.1 hb).mono fun v st₃ r => ⟨r.1, ih (i + 1) ρ' _ st₃ hd' hlt r.2 r.1⟩, fun hb => ⟨(q.2 hb).1, ih (i + 1) ρ' acc st₂ hd' hlt (q.2 hb).2 (q.2 hb).1⟩⟩

/-- a comprehension that takes each thing to a thing -/
theorem CT.map {target elt : Expr} {G : List PObj → Prop} {Q : List PV → List PObj → Prop} {all : List PV} (f : PV → PV) (Sh : List (Str × PV) → Prop) (J : List PObj → Prop)
    (turn : ∀ p ρ' st', p ∈ all → Sh ρ' → J st' → G st' → AsgL C n sc target p ρ' st' (fun ρ'' st'' => W C n sc elt ρ'' st'' (fun v st₃ => G st₃ ∧ J st₃ ∧ Sh ρ'' ∧ v = f p)))
    (h0 : Sh ρ) (hJ : J st) (hG : G st) (fin : ∀ st', J st' → Q (all.map f) st') : CT C n sc target elt [] G Q all ρ [] st := by
  refine CT.inv (all := all) (fun i ρ' acc st' => Sh ρ' ∧ J st' ∧ acc = (all.take i).map f) (fun i p ρ' acc st' hp h hG' => ?_) (fun ρ' acc st' h => ?_) all 0 ρ [] st rfl (Nat.zero_le _) ⟨h0, hJ, by simp⟩ hG
  · obtain ⟨h1, h2, rfl⟩ := h
    refine (turn p ρ' st' (List.mem_of_getElem? hp) h1 h2 hG').mono fun ρ'' st'' w => ⟨fun _ => w.mono fun v st₃ q => ⟨q.1, q.2.2.1, q.2.1, ?_⟩, fun hb => by cases hb⟩
    rw [q.2.2.2, List.take_add_one, hp]; simp
  · obtain ⟨h1, h2, rfl⟩ := h
    rw [List.take_length]; exact fin st' h2
end
open Classical in
noncomputable def updT (kvs : List (PV × PV)) (p v : PV) : List (PV × PV) := if (tget kvs p).isSome = true then kvs.map (fun x => if x.1 = p then (x.1, v) else x) else kvs ++ [(p, v)]
open Classical in
theorem updT_get (kvs : List (PV × PV)) (p v k : PV) : tget (updT kvs p v) k = if k = p then some v else tget kvs k := by
  have mapGet : ∀ (l : List (PV × PV)), tget (l.map (fun x => if x.1 = p then (x.1, v) else x)) k = (tget l k).map fun q => if k = p then v else q := by
    intro l
    induction l with
    | nil => rfl
    | cons x l ih =>
      unfold tget at ih ⊢
      rw [List.map_cons, List.find?_cons, List.find?_cons]
      by_cases h : x.1 = p
      · rw [if_pos h]
        by_cases hk : x.1 = k
        · have hkp : k = p := hk ▸ h
          simp only [hk, decide_true, Option.map_some]
          rw [if_pos hkp]
        · simp only [decide_eq_false hk]
          exact ih
      · rw [if_neg h]
        by_cases hk : x.1 = k
        · have hkp : k ≠ p := fun q => h (hk.trans q)
          simp only [hk, decide_true, Option.map_some]
          rw [if_neg hkp]
        · simp only [decide_eq_false hk]
          exact ih
  unfold updT
  by_cases hs : (tget kvs p).isSome = true
  · rw [if_pos hs, mapGet]
    by_cases hk : k = p
    · subst hk
      obtain ⟨q, hq⟩ := Option.isSome_iff_exists.mp hs
      rw [hq]; simp
    · simp [hk]
  · rw [if_neg hs]
    have hn : tget kvs p = none := by simpa using hs
    unfold tget at hn ⊢
    rw [List.find?_append]
    by_cases hk : k = p
    · subst hk
      have : kvs.find? (fun x => decide (x.1 = k)) = none := by simpa using hn
      rw [this]; simp
    · have : decide (p = k) = false := decide_eq_false fun q => hk q.symm
      simp [hk, this]
theorem updT_length (kvs : List (PV × PV)) (p v : PV) : (updT kvs p v).length ≤ kvs.length + 1 := by
  unfold updT
  split <;> simp
open Classical in
theorem VRt.put {g : Fz} {ads : List Addr} {k v : PV} {vv : Value} (hv : VR g ads vv v) : ∀ {es : List (PV × Addr × Value)} {kvs : List (PV × PV)}, VRt g ads es kvs → VRt g ads (es.map (putAt k vv)) (kvs.map (fun x => if x.1 = k then (x.1, v) else x))
  | _, _, .nil => .nil
  | _, _, .cons (p := p) a b c r => by
    rw [List.map_cons, List.map_cons]
    unfold putAt
    by_cases h : p = k
    · subst h
      simp only [if_true]
      exact .cons a b hv (VRt.put hv r)
    · simp only [if_neg h]
      exact .cons a b c (VRt.put hv r)
section
variable {C : Ctx0} {n : Nat} {sc : Scope} {ρ : List (Str × PV)} {st : List PObj} {Q : Post}
open Classical in
theorem SetOp.tdU {i : Nat} {kvs : List (PV × PV)} {l : List PV} {v : PV} {Q : List PObj → Prop} (hi : st[i]? = some (.td kvs)) (hk : keyOk 8 (.tup l) = true) (hz : kvs.length ≤ 1000000) (q : Q (st.set i (.td (updT kvs (.tup l) v)))) : SetOp C n (.loc i) (.tup l) v st Q := by
  cases hg : tget kvs (.tup l) with
  | none =>
    refine SetOp.td hi hk hg hz ?_
    have e : updT kvs (.tup l) v = kvs ++ [(.tup l, v)] := by unfold updT; rw [if_neg (by rw [hg]; simp)]
    rw [← e]; exact q
  | some old =>
    intro A g ads s vo vi vv hA base z x y w
    obtain ⟨d, rfl, hd, o⟩ := z.ref x hi
    obtain ⟨a, rfl⟩ := y.tupRef
    cases o with
    | td e1 e2 e3 e4 e5 r =>
      have hm : s.heap.DictOfH (tk C.prog C.w) d _ := ⟨_, _, _, e1, e2, e3, e4, r.is z.gh, e5⟩
      have key : (tk C.prog C.w).is s.heap (.tup l) a := ⟨y.lies z.gh 8 (dtOk_of_keyOk 8 _ hk), hk⟩
      have hroom : (tk C.prog C.w).room A.in1 := by show A.units + 1 + 20 < cLine; have := hA.un; omega
      obtain ⟨x', hx', _⟩ := r.look.1 old hg
      refine wpAny_setItem_heap (knd := tk C.prog C.w) hroom key hm (fun h' hm' hs => ?_) (by rw [r.length, sizeLine_is]; omega)
      rw [storedH_old hx'] at hm'
      obtain ⟨o', es', ep', f1, f2, f3, f4, f5, f6⟩ := hm'
      obtain ⟨nx, sm⟩ := change z hd hs (.td f1 f2 f3 f4 f6 (r.put w))
      refine ⟨g, ads, _, nx, sm, ?_, rfl⟩
      have e : updT kvs (.tup l) v = kvs.map (fun x => if x.1 = .tup l then (x.1, v) else x) := by unfold updT; rw [if_pos (by rw [hg]; rfl)]
      rw [← e]; exact q
end
set_option hygiene false in
local macro_rules | `(tactic| walk_at "py") => `(tactic| repeat (first
    | ((with_reducible show X _ _ _ (_ :: _) _ _ _ _); refine X.cons ?_)
    | ((with_reducible show X _ _ _ [] _ _ _ _); refine X.nil ?_)
    | ((with_reducible show X1 _ _ _ (Stmt.Return (some _) _) _ _ _ _); refine X1.ret ?_)
    | ((with_reducible show X1 _ _ _ (Stmt.If _ _ _ _) _ _ _ _); refine X1.if_ ?_)
    | ((with_reducible show X1 _ _ _ (Stmt.Expr _ _) _ _ _ _); refine X1.expr (fun e => rfl) ?_)
    | ((with_reducible show X1 _ _ _ (Stmt.Assign [Expr.Name _ _] _ _) _ _ _ _); refine X1.assign (by first | (left; decide) | (right; decide)) (fun e => rfl) ?_)
    | ((with_reducible show X1 _ _ _ (Stmt.Assign [Expr.Subscript _ _ _] _ _) _ _ _ _); refine X1.setItem (fun e => rfl) ?_)
    | ((with_reducible show T _ _ _ (Expr.Compare _ [_] [_] _) _ _ _); refine T.cmp rfl ?_)
    | ((with_reducible show T _ _ _ (Expr.UnaryOp _ _ _) _ _ _); refine T.not ?_)
    | ((with_reducible show T _ _ _ (Expr.BoolOp _ _ _) _ _ _); refine T.bool ?_)
    | ((with_reducible show Tl _ _ _ BoolOp.And ([]) _ _ _ _); refine Tl.and_nil ?_)
    | ((with_reducible show Tl _ _ _ BoolOp.Or ([]) _ _ _ _); refine Tl.or_nil ?_)
    | ((with_reducible show Tl _ _ _ BoolOp.And (_ :: _) _ _ _ _); refine Tl.and ?_)
    | ((with_reducible show Tl _ _ _ BoolOp.Or (_ :: _) _ _ _ _); refine Tl.or ?_)
    | ((with_reducible show T _ _ _ (Expr.Call _ _ _ _) _ _ _); refine T.plain (fun e => rfl) ?_)
    | ((with_reducible show W _ _ _ (Expr.Name _ _) _ _ _); refine W.nameL (by decide) rfl (by decide) ?_)
    | ((with_reducible show W _ _ _ (Expr.Name _ _) _ _ _); refine W.nameC (by decide) rfl (by decide) ?_)
    | ((with_reducible show W _ _ _ (Expr.Constant (Const.int _) _ _) _ _ _); refine W.int ?_)
    | ((with_reducible show W _ _ _ (Expr.Constant (Const.str _) _ _) _ _ _); refine W.str ?_)
    | ((with_reducible show W _ _ _ (Expr.Constant (Const.bool _) _ _) _ _ _); refine W.bool ?_)
    | ((with_reducible show W _ _ _ (Expr.BinOp _ _ _ _) _ _ _); refine W.binop ?_)
    | ((with_reducible show W _ _ _ (Expr.Compare _ [_] [_] _) _ _ _); refine W.cmp rfl ?_)
    | ((with_reducible show W _ _ _ (Expr.IfExp _ _ _ _) _ _ _); refine W.ifexp ?_)
    | ((with_reducible show W _ _ _ (Expr.Tuple _ _ _) _ _ _); refine W.tuple ?_)
    | ((with_reducible show W _ _ _ (Expr.List _ _) _ _ _); refine W.list ?_)
    | ((with_reducible show Ws _ _ _ (_ :: _) _ _ _); refine Ws.cons (fun e => rfl) ?_)
    | ((with_reducible show Ws _ _ _ ([]) _ _ _); refine Ws.nil ?_)
    | ((with_reducible show Wp _ _ _ Option.none _ _ _); refine Wp.none ?_)
    | ((with_reducible show Wp _ _ _ (Option.some _) _ _ _); refine Wp.some ?_)
    | ((with_reducible show W _ _ _ (Expr.Call (Expr.Name (Str.ofString "len") _) _ _ _) _ _ _); refine W.callB (by decide) (by k_is) (by first | boot_by_name | rfl | kernel_rfl) (by decide) (by decide) (fun e => rfl) (fun e => rfl) (fun e => rfl) ?_)
    | ((with_reducible show W _ _ _ (Expr.Call (Expr.Name (Str.ofString "sum") _) _ _ _) _ _ _); refine W.callB (by decide) (by k_is) (by first | boot_by_name | rfl | kernel_rfl) (by decide) (by decide) (fun e => rfl) (fun e => rfl) (fun e => rfl) ?_)
    | ((with_reducible show W _ _ _ (Expr.Call (Expr.Name (Str.ofString "sorted") _) _ _ _) _ _ _); refine W.callB (by decide) (by k_is) (by first | boot_by_name | rfl | kernel_rfl) (by decide) (by decide) (fun e => rfl) (fun e => rfl) (fun e => rfl) ?_)
    | ((with_reducible show W _ _ _ (Expr.Call (Expr.Name (Str.ofString "int") _) _ _ _) _ _ _); refine W.callT (by decide) (by k_is) (by first | boot_by_name | rfl | kernel_rfl) (by decide) (by decide) (fun e => rfl) (fun e => rfl) (fun e => rfl) ?_)
    | ((with_reducible show W _ _ _ (Expr.Call (Expr.Name (Str.ofString "tuple") _) _ _ _) _ _ _); refine W.callT (by decide) (by k_is) (by first | boot_by_name | rfl | kernel_rfl) (by decide) (by decide) (fun e => rfl) (fun e => rfl) (fun e => rfl) ?_)
    | ((with_reducible show W _ _ _ (Expr.Call (Expr.Name (Str.ofString "dict") _) _ _ _) _ _ _); refine W.callT (by decide) (by k_is) (by first | boot_by_name | rfl | kernel_rfl) (by decide) (by decide) (fun e => rfl) (fun e => rfl) (fun e => rfl) ?_)
    | ((with_reducible show W _ _ _ (Expr.Call (Expr.Attribute _ (Str.ofString "extend") _) (_ :: _) _ _) _ _ _); refine W.methB F.plainAttrs_list F.slot_list_extend F.type_list_extend (fun e => rfl) (fun e => rfl) (fun e => rfl) ?_)
    | ((with_reducible show W _ _ _ (Expr.Call (Expr.Attribute _ (Str.ofString "get") _) (_ :: _) _ _) _ _ _); refine W.methB F.plainAttrs_dict F.slot_dict_get F.type_dict_get (fun e => rfl) (fun e => rfl) (fun e => rfl) ?_)
    | ((with_reducible show W _ _ _ (Expr.Call (Expr.Attribute _ (Str.ofString "pop") _) [] _ _) _ _ _); refine W.methB0 F.plainAttrs_list F.slot_list_pop F.type_list_pop (fun e => rfl) ?_)
    | ((with_reducible show W _ _ _ (Expr.Call (Expr.Attribute (Expr.Name _ _) (Str.ofString "weight") _) (_ :: _) _ _) _ _ _); refine W.methI (by k_is) (by k_is) (by k_is) (by k_is) (fun e => rfl) (fun e => rfl) (fun e => rfl) ?_)
    | ((with_reducible show W _ _ _ (Expr.Call (Expr.Attribute (Expr.Name _ _) (Str.ofString "is_above") _) (_ :: _) _ _) _ _ _); refine W.methI (by k_is) (by k_is) (by k_is) (by k_is) (fun e => rfl) (fun e => rfl) (fun e => rfl) ?_)
    | ((with_reducible show W _ _ _ (Expr.Call (Expr.Attribute (Expr.Name _ _) (Str.ofString "above") _) (_ :: _) _ _) _ _ _); refine W.methI (by k_is) (by k_is) (by k_is) (by k_is) (fun e => rfl) (fun e => rfl) (fun e => rfl) ?_)
    | ((with_reducible show W _ _ _ (Expr.Call (Expr.Attribute (Expr.Name _ _) (Str.ofString "first_above") _) (_ :: _) _ _) _ _ _); refine W.methI (by k_is) (by k_is) (by k_is) (by k_is) (fun e => rfl) (fun e => rfl) (fun e => rfl) ?_)
    | ((with_reducible show W _ _ _ (Expr.ListComp _ [_] _ _) _ _ _); refine W.comp rfl (by decide) (by decide) (by decide) (fun e x => rfl) ?_)
    | ((with_reducible show W _ _ _ (Expr.Call (Expr.Name _ _) (_ :: _) _ _) _ _ _); refine W.call (by decide) (by k_is) (by k_is) (by decide) (fun e => rfl) (fun e => rfl) (fun e => rfl) ?_)
    | ((with_reducible show W _ _ _ (Expr.Call (Expr.Name _ _) [] _ _) _ _ _); refine W.call0 (by decide) (by k_is) (by k_is) (by decide) (fun e => rfl) ?_)
    | ((with_reducible show W _ _ _ (Expr.Attribute _ _ _) _ _ _); refine W.attr (by k_is) (by k_is) (by k_is) (by k_is) (fun e => rfl) ?_)
    | ((with_reducible show W _ _ _ (Expr.Subscript _ (Expr.Slice _ _ _ _) _) _ _ _); refine W.slice ?_)
    | ((with_reducible show W _ _ _ (Expr.Subscript _ _ _) _ _ _); refine W.sub (fun e x => rfl) (fun e => rfl) ?_)
    | ((with_reducible refine Op2.addI ?_))
    | ((with_reducible refine Op2.subI ?_))
    | ((with_reducible refine Op2.ltI ?_))
    | ((with_reducible refine Op2.gtI ?_))
    | ((with_reducible refine Op2.geI ?_))
    | ((with_reducible refine Op2.eqI ?_))
    | ((with_reducible refine Op2.neI ?_))
    | ((with_reducible refine Op2.eqS ?_))))
theorem isv_spec {C : Ctx0} {n : Nat} {st : List PObj} (t : Tm) : CF C (n + 1) 62 [tm t] st (fun v st' => v = .bool (isVar t) ∧ st' = st) := by
  refine CF.enter (names := ["t"]) (by k_is) (by k_is) rfl (len1 (fun a => by exact rfl)) (by decide) (by decide) (by decide) (by decide) (by decide) (by decide) (by decide) (by decide) ?_
  walk_at "py"
  refine W.and ?_
  walk_at "py"
  refine OpN.lenM ?_
  walk_at "py"
  refine ⟨_, rfl, fun hb => ?_, fun hb => ?_⟩
  · refine W.and1 ?_
    walk_at "py"
    refine ItemOp.tm0 ?_
    walk_at "py"
    refine SlOp.op1 ?_
    walk_at "py"
    exact ⟨by rw [head_var], rfl⟩
  · refine ⟨?_, rfl⟩
    cases t with
    | L l => simp [kids] at hb
    | F _ => rfl
    | G _ _ => rfl
noncomputable def partsL : Tm → List (List Nat × Tm)
  | .L l => [([], .L l)]
  | .F t => ([], .F t) :: (partsL t).map fun x => (0 :: x.1, x.2)
  | .G s t => ([], .G s t) :: ((partsL s).map (fun x => (0 :: x.1, x.2)) ++ (partsL t).map (fun x => (1 :: x.1, x.2)))
noncomputable def pvPart (x : List Nat × Tm) : PV := .tup [.tup (x.1.map fun (i : Nat) => .int i), tm x.2]
noncomputable def kp : Nat → List Tm → List (List Nat × Tm)
  | _, [] => []
  | i, k :: ks => (partsL k).map (fun x => (i :: x.1, x.2)) ++ kp (i + 1) ks
theorem partsL_eq (t : Tm) : partsL t = ([], t) :: kp 0 (kids t) := by cases t <;> simp [partsL, kp, kids]
theorem kp_snoc : ∀ (ks : List Tm) (j i : Nat) (k : Tm), ks[i]? = some k → kp j (ks.take (i + 1)) = kp j (ks.take i) ++ (partsL k).map (fun x => ((j + i) :: x.1, x.2))
  | [], _, _, _, h => by simp at h
  | a :: ks, j, 0, k, h => by simp at h; subst h; simp [kp]
  | a :: ks, j, i + 1, k, h => by
    simp only [List.getElem?_cons_succ] at h
    have := kp_snoc ks (j + 1) i k h
    simp only [List.take_succ_cons, kp, this, List.append_assoc]
    have e : j + 1 + i = j + (i + 1) := by walk_at "om"
    first | refine X.rho (e _) ?_ | refine X.rho (e _ _) ?_ | refine W.rho (e _ _) ?_ | refine W.rho (e _) ?_ | rw [e]
theorem KO.setNew {S : List Nat} {st st' : List PObj} {k : Nat} {po : PObj} (x : KO S st st') (h : st.length ≤ k) : KO S st (st'.set k po) := ⟨by simpa using x.1, fun j p hj e => by
  rw [List.getElem?_set_ne (fun q => by have := get_lt e; omega)]; exact x.2 j p hj e⟩
theorem partsL_len1 : ∀ (t : Tm), (partsL t).length + 1 ≤ 2 ^ ht t
  | .L _ => by simp [partsL, ht]
  | .F t => by
    have := partsL_len1 t
    simp only [partsL, ht, List.length_cons, List.length_map, Nat.pow_succ]
    have := Nat.one_le_two_pow (n := ht t)
    omega
  | .G s t => by
    have h1 := partsL_len1 s
    have h2 := partsL_len1 t
    have e1 := Nat.pow_le_pow_right (n := 2) (by walk_at "om") (Nat.le_max_left (ht s) (ht t))
    have e2 := Nat.pow_le_pow_right (n := 2) (by walk_at "om") (Nat.le_max_right (ht s) (ht t))
    simp only [partsL, ht, List.length_cons, List.length_append, List.length_map, Nat.pow_succ]
    omega
theorem partsL_len (t : Tm) : (partsL t).length ≤ 2 ^ ht t := by have := partsL_len1 t; omega
noncomputable def addHead (i : Nat) : PV → PV
  | .tup [.tup l, q] => .tup [.tup (.int i :: l), q]
  | p => p
theorem path_len : ∀ (t : Tm) (x : List Nat × Tm), x ∈ partsL t → x.1.length < ht t
  | .L l, x, h => by simp [partsL] at h; subst h; simp [ht]
  | .F t, x, h => by
    simp only [partsL, List.mem_cons, List.mem_map] at h
    rcases h with rfl | ⟨y, hy, rfl⟩
    · simp [ht]
    · have := path_len t y hy
      simp [ht]; omega
  | .G s t, x, h => by
    simp only [partsL, List.mem_cons, List.mem_append, List.mem_map] at h
    rcases h with rfl | ⟨y, hy, rfl⟩ | ⟨y, hy, rfl⟩
    · simp [ht]
    · have := path_len s y hy
      simp [ht]; omega
    · have := path_len t y hy
      simp [ht]; omega
theorem kp_len {B : Nat} : ∀ (ks : List Tm) (i j : Nat), (∀ k ∈ ks, ht k < B) → B ≤ 16 → (kp j (ks.take i)).length ≤ ks.length * 32768
  | [], i, j, _, _ => by cases i <;> simp [kp]
  | k :: ks, 0, j, _, _ => by simp [kp]
  | k :: ks, i + 1, j, h, hB => by
    have := kp_len ks i (j + 1) (fun x hx => h x (.tail _ hx)) hB
    have h1 := partsL_len k
    have hk := h k (.head _)
    have h2 := Nat.pow_le_pow_right (n := 2) (by walk_at "om") (show ht k ≤ 15 by walk_at "om")
    have h5 : 2 ^ 15 = 32768 := by decide
    simp only [List.take_succ_cons, kp, List.length_append, List.length_map, List.length_cons]
    omega
theorem parts_spec {C : Ctx0} : ∀ (n : Nat) (t : Tm) (st : List PObj), ht t ≤ n → ht t < 16 → CF C n 67 [tm t] st (fun v st' => ∃ k, v = .loc k ∧ st'[k]? = some (.list ((partsL t).map pvPart)) ∧ KO [] st st') := by
  intro n
  induction n with
  | zero => intro t st h; cases t <;> simp [ht] at h
  | succ n ih =>
    intro t st h h20
    refine CF.enter (names := ["t"]) (by k_is) (by k_is) rfl (len1 (fun a => by exact rfl)) (by decide) (by decide) (by decide) (by decide) (by decide) (by decide) (by decide) (by decide) ?_
    walk_at "py"
    refine ⟨by simp, ?_⟩
    walk_at "py"
    refine ⟨by simp, ?_⟩
    walk_at "py"
    refine ⟨by simp, ?_⟩
    refine X.cons (X1.for_inv (fun e x => rfl) (WI.enum (by decide) (by k_is) (by first | boot_by_name | rfl | kernel_rfl) (by decide) (by decide) (fun e => rfl) (fun e => rfl) (fun e => rfl) ?_))
    walk_at "py"
    refine SlOp.tm1 ?_
    walk_at "py"
    refine ⟨_, rfl, (fun i ρ' st' => (ρ' = upd ([Str.ofString "t"].zip [tm t]) (Str.ofString "found") (PV.loc st.length) ∨ ∃ a b, ρ' = upd (upd (upd ([Str.ofString "t"].zip [tm t]) (Str.ofString "found") (PV.loc st.length)) (Str.ofString "k") a) (Str.ofString "kid") b) ∧ KO [] st st' ∧ st'[st.length]? = some (.list ((([], t) :: kp 0 ((kids t).take i)).map pvPart))), trivial, ⟨.inl rfl, KO.app _ _ _, by simp [pvPart, kp]⟩, ?_, ?_⟩
    · rintro i p ρ' st₁ hp ⟨hρ, hko, hf⟩ _
      rw [numbered_get, List.getElem?_map] at hp
      cases hk : (kids t)[i]? with
      | none => rw [hk] at hp; cases hp
      | some kid =>
        rw [hk] at hp
        cases hp
        have hlk : ht kid < ht t := kids_ht (List.mem_of_getElem? hk)
        refine Asg.tup (fun e => rfl) rfl rfl ?_
        refine AsgO.nameC (by decide) (AsgO.nameC (by decide) ?_)
        show X C n _ _ (upd (upd ρ' (Str.ofString "k") (PV.int ((0 + i : Nat) : Int))) (Str.ofString "kid") (tm kid)) st₁ _ _
        have hρ' : upd (upd ρ' (Str.ofString "k") (PV.int ((0 + i : Nat) : Int))) (Str.ofString "kid") (tm kid) = upd (upd (upd ([Str.ofString "t"].zip [tm t]) (Str.ofString "found") (PV.loc st.length)) (Str.ofString "k") (PV.int ((0 + i : Nat) : Int))) (Str.ofString "kid") (tm kid) := by
          rcases hρ with rfl | ⟨a, b, rfl⟩ <;> rfl
        first | refine X.rho (hρ' _) ?_ | refine X.rho (hρ' _ _) ?_ | refine W.rho (hρ' _ _) ?_ | refine W.rho (hρ' _) ?_ | rw [hρ']
        walk_at "py"
        refine ⟨by rw [if_neg (by decide)]; exact ⟨rfl, by simp [isList, hf]⟩, ?_⟩
        walk_at "py"
        refine WI.list ?_
        walk_at "py"
        refine CF.goL (ih kid st₁ (by walk_at "om") (by walk_at "om")) (Nat.le_refl _) fun kk st₂ hl hko2 => ?_
        refine ⟨kk, _, rfl, hl, hl, ?_, ?_⟩
        · rw [List.length_map]
          have := partsL_len kid
          have := Nat.pow_le_pow_right (n := 2) (by walk_at "om") (show ht kid ≤ 15 by walk_at "om")
          omega
        have hf2 := hko2.get hf
        refine CT.map (addHead (0 + i)) (fun ρ' => ρ' = [(Str.ofString "k", PV.int ((0 + i : Nat) : Int))] ∨ ∃ a b, ρ' = upd (upd [(Str.ofString "k", PV.int ((0 + i : Nat) : Int))] (Str.ofString "path") a) (Str.ofString "part") b) (fun st' => KO [] st₂ st') ?_ (.inl rfl) (KO.refl _ _) hl ?_
        · intro p ρ'' st₃ hp hρ'' hko3 hG3
          obtain ⟨x, hx, rfl⟩ := List.mem_map.mp hp
          refine AsgL.tup (fun e => rfl) (ps := [.tup (x.1.map fun (i : Nat) => .int i), tm x.2]) rfl rfl ?_
          refine AsgO.nameL (fun _ => .head _) (by decide) (AsgO.nameL (fun _ => .head _) (by decide) ?_)
          show W C n _ _ (upd (upd ρ'' (Str.ofString "path") _) (Str.ofString "part") _) st₃ _
          have e : ∀ a b, upd (upd ρ'' (Str.ofString "path") a) (Str.ofString "part") b = upd (upd [(Str.ofString "k", PV.int ((0 + i : Nat) : Int))] (Str.ofString "path") a) (Str.ofString "part") b := by
            intro a b; rcases hρ'' with rfl | ⟨_, _, rfl⟩ <;> rfl
          first | refine X.rho (e _) ?_ | refine X.rho (e _ _) ?_ | refine W.rho (e _ _) ?_ | refine W.rho (e _) ?_ | rw [e]
          walk_at "py"
          refine ⟨by simp, ?_⟩
          walk_at "py"
          refine Op2.addT ?_ ?_
          · have := path_len kid x hx
            simp only [List.length_cons, List.length_nil, List.length_map]
            omega
          walk_at "py"
          refine ⟨by simp, hG3, hko3, .inr ⟨_, _, by first | exact e _ _ | rfl⟩, rfl⟩
        · intro st₄ hko4
          walk_at "py"
          refine OpN.extend (l := (([], t) :: kp 0 ((kids t).take i)).map pvPart) (m := ((partsL kid).map pvPart).map (addHead (0 + i))) (get_app (hko4.get hf2)) (.inr ⟨_, rfl, get_new⟩) ?_ ?_
          · rw [List.length_map, List.length_map, List.length_map, List.length_cons]
            have h1 := partsL_len kid
            have h2 := Nat.pow_le_pow_right (n := 2) (by walk_at "om") (show ht kid ≤ 15 by walk_at "om")
            have h3 := kp_len (kids t) i 0 (fun k hk => kids_ht hk) (by walk_at "om")
            have h4 := kids_len t
            have h5 : 2 ^ 15 ≤ 32768 := by decide
            omega
          walk_at "py"
          have k0 : st.length ≤ st₄.length := (hko.trans (hko2.trans hko4)).1
          refine ⟨trivial, .inr ⟨_, _, by first | exact e _ _ | rfl⟩, ?_, ?_⟩
          · exact ((hko.trans (hko2.trans hko4)).trans (KO.app _ _ _)).setNew (Nat.le_refl _)
          · rw [get_set (get_app (hko4.get hf2))]
            congr 2
            rw [kp_snoc _ _ _ _ hk, ← List.cons_append, List.map_append, List.map_map, List.map_map]
            congr 1
    · rintro ρ' st₁ ⟨hρ, hko, hf⟩
      rw [numbered_length, List.length_map, List.take_length, ← partsL_eq] at hf
      rcases hρ with rfl | ⟨a, b, rfl⟩
      · walk_at "py"
        exact ⟨_, rfl, hf, hko⟩
      · walk_at "py"
        exact ⟨_, rfl, hf, hko⟩
/-- a table of numbers -/
noncomputable abbrev Tab := List (Str × Int)
noncomputable def tabPV (w : Tab) : List (Str × PV) := w.map fun x => (x.1, .int x.2)
theorem tab_get (w : Tab) (k : Str) (d : Int) : ((tabPV w).lookup k).getD (.int d) = .int ((w.lookup k).getD d) := by
  induction w with
  | nil => rfl
  | cons x w ih =>
    obtain ⟨y, i⟩ := x
    simp only [tabPV, List.map_cons, List.lookup_cons] at ih ⊢
    cases k == y with
    | true => rfl
    | false => exact ih
/-- the store holds the table there -/
noncomputable def TabAt' (st : List PObj) (i : Nat) (w : Tab) : Prop := ∃ ep, st[i]? = some (.sd (tabPV w) ep)
theorem TabAt'.ko {st st' : List PObj} {i : Nat} {w : Tab} {S : List Nat} (h : TabAt' st i w) (k : KO S st st') (hi : i ∉ S) : TabAt' st' i w := by
  obtain ⟨ep, e⟩ := h
  exact ⟨ep, k.2 i _ hi e⟩
noncomputable def rkOf (rk : Tab) (t : Tm) : Int := (rk.lookup (opOf t)).getD 0
theorem place_spec {C : Ctx0} {n : Nat} {st : List PObj} {ri : Nat} {rk : Tab} (hr : TabAt' st ri rk) (t : Tm) : CF C (n + 1) 74 [.loc ri, tm t] st (fun v st' => v = .tup [.int (rkOf rk t), .str (opOf t), .int (kids t).length] ∧ st' = st) := by
  obtain ⟨ep, hr⟩ := hr
  refine CF.enter (names := ["ranks", "t"]) (by k_is) (by k_is) rfl (len2 (fun a b => by exact rfl)) (by decide) (by decide) (by decide) (by decide) (by decide) (by decide) (by decide) (by decide) ?_
  walk_at "py"
  refine ⟨by rw [if_pos rfl]; simp [isDict, hr], ?_⟩
  walk_at "py"
  refine ItemOp.tm0 ?_
  walk_at "py"
  refine OpN.getSd hr ?_
  rw [tab_get]
  walk_at "py"
  refine ItemOp.tm0 ?_
  walk_at "py"
  refine OpN.lenM ?_
  walk_at "py"
  refine ⟨by simp, ?_, rfl⟩
  have : ((kids t).length : Int) + 1 - 1 = (kids t).length := by walk_at "om"
  rw [this]; rfl
noncomputable def wOf (wt : Tab) (t : Tm) : Int := if isVar t = true then 1 else (wt.lookup (opOf t)).getD 1
noncomputable def weightV (wt : Tab) (t : Tm) : Int := ((partsL t).map fun x => wOf wt x.2).sum
noncomputable def selfPV (ri kn wi : Nat) : PV := .inst [(Str.ofString "ranks", .loc ri), (Str.ofString "known", .loc kn), (Str.ofString "weights", .loc wi)]
open Classical in
/-- the worth of one part, read off its data -/
noncomputable def wPart (wt : Tab) (p : PV) : Int := if h : ∃ x : List Nat × Tm, pvPart x = p then wOf wt h.choose.2 else 0
theorem pvPart_snd {x y : List Nat × Tm} (h : pvPart x = pvPart y) : x.2 = y.2 := by
  unfold pvPart at h
  simp only [PV.tup.injEq, List.cons.injEq, and_true] at h
  exact tm_inj h.2
theorem wPart_eq (wt : Tab) (x : List Nat × Tm) : wPart wt (pvPart x) = wOf wt x.2 := by
  have h : ∃ y : List Nat × Tm, pvPart y = pvPart x := ⟨x, rfl⟩
  unfold wPart
  rw [dif_pos h, pvPart_snd h.choose_spec]
theorem ht_pos (t : Tm) : 1 ≤ ht t := by cases t <;> simp [ht]
theorem weight_spec {C : Ctx0} {n : Nat} {st : List PObj} {ri kn wi : Nat} {wt : Tab} (hw : TabAt' st wi wt) (t : Tm) (hn : ht t ≤ n) (h16 : ht t < 16) : CF C (n + 1) 142 [selfPV ri kn wi, tm t] st (fun v st' => v = .int (weightV wt t) ∧ KO [] st st') := by
  refine CF.enter (names := ["self", "t"]) (by k_is) (by k_is) rfl (len2 (fun a b => by exact rfl)) (by decide) (by decide) (by decide) (by decide) (by decide) (by decide) (by decide) (by decide) ?_
  walk_at "py"
  refine WI.list ?_
  walk_at "py"
  refine CF.goL (parts_spec n t st hn h16) (Nat.le_refl _) fun k st₁ hl hko => ?_
  refine ⟨k, _, rfl, hl, hl, ?_, ?_⟩
  · rw [List.length_map]
    have := partsL_len t
    have := Nat.pow_le_pow_right (n := 2) (by walk_at "om") (show ht t ≤ 15 by walk_at "om")
    omega
  refine CT.map (fun p => .int (wPart wt p)) (fun ρ' => ρ' = [(Str.ofString "self", selfPV ri kn wi)] ∨ ∃ a b, ρ' = upd (upd [(Str.ofString "self", selfPV ri kn wi)] (Str.ofString "path") a) (Str.ofString "part") b) (fun st' => KO [] st₁ st') ?_ (.inl rfl) (KO.refl _ _) hl ?_
  · intro p ρ'' st₃ hp hρ'' hko3 hG3
    obtain ⟨x, hx, rfl⟩ := List.mem_map.mp hp
    refine AsgL.tup (fun e => rfl) (ps := [.tup (x.1.map fun (i : Nat) => .int i), tm x.2]) rfl rfl ?_
    refine AsgO.nameL (fun _ => .head _) (by decide) (AsgO.nameL (fun _ => .head _) (by decide) ?_)
    show W C n _ _ (upd (upd ρ'' (Str.ofString "path") _) (Str.ofString "part") _) st₃ _
    have e : ∀ a b, upd (upd ρ'' (Str.ofString "path") a) (Str.ofString "part") b = upd (upd [(Str.ofString "self", selfPV ri kn wi)] (Str.ofString "path") a) (Str.ofString "part") b := by
      intro a b; rcases hρ'' with rfl | ⟨_, _, rfl⟩ <;> rfl
    first | refine X.rho (e _) ?_ | refine X.rho (e _ _) ?_ | refine W.rho (e _ _) ?_ | refine W.rho (e _) ?_ | rw [e]
    walk_at "py"
    refine CF.go0 ((isv_spec (n := 0) x.2).up (by have := ht_pos t; omega)) (Nat.le_refl _) ?_
    obtain ⟨ep, hw3⟩ := hw.ko (hko.trans hko3) (by simp)
    refine ⟨_, rfl, fun hb => ?_, fun hb => ?_⟩
    · walk_at "py"
      refine ⟨_, _, rfl, rfl, ?_⟩
      refine ⟨by rw [if_pos rfl]; simp [isDict, hw3], ?_⟩
      walk_at "py"
      refine ItemOp.tm0 ?_
      walk_at "py"
      refine OpN.getSd hw3 ?_
      rw [tab_get]
      refine ⟨hG3, hko3, .inr ⟨_, _, by first | exact e _ _ | rfl⟩, ?_⟩
      have : isVar x.2 = false := by simpa using hb
      rw [wPart_eq]; unfold wOf; rw [this]; rfl
    · walk_at "py"
      refine ⟨hG3, hko3, .inr ⟨_, _, by first | exact e _ _ | rfl⟩, ?_⟩
      have : isVar x.2 = true := by simpa using hb
      rw [wPart_eq]; unfold wOf; rw [this]; rfl
  · intro st₄ hko4
    walk_at "py"
    have e : ((partsL t).map pvPart).map (fun p => PV.int (wPart wt p)) = ((partsL t).map fun x => wOf wt x.2).map .int := by
      rw [List.map_map, List.map_map]
      refine List.map_congr_left fun x _ => ?_
      show PV.int (wPart wt (pvPart x)) = .int (wOf wt x.2)
      rw [wPart_eq]
    first | refine X.rho (e _) ?_ | refine X.rho (e _ _) ?_ | refine W.rho (e _ _) ?_ | refine W.rho (e _) ?_ | rw [e]
    refine OpN.sumL get_new ?_
    exact ⟨rfl, (hko.trans hko4).trans (KO.app _ _ _)⟩
noncomputable def updTab : Tab → Str → Int → Tab
  | [], x, p => [(x, p)]
  | (y, q) :: r, x, p => if y == x then (x, p) :: r else (y, q) :: updTab r x p
theorem tab_upd (k : Str) (v : Int) : ∀ (w : Tab), upd (tabPV w) k (.int v) = tabPV (updTab w k v)
  | [] => rfl
  | (y, q) :: r => by
    unfold updTab
    have ih := tab_upd k v r
    simp only [tabPV, List.map_cons, upd] at ih ⊢
    split
    · rfl
    · rw [ih]; rfl
theorem updTab_get (w : Tab) (k j : Str) (v : Int) : (updTab w k v).lookup j = if j = k then some v else w.lookup j := by
  induction w with
  | nil =>
    unfold updTab
    rw [List.lookup_cons]
    by_cases h : j = k
    · subst h; simp
    · have : (j == k) = false := by simpa using h
      simp [this, h]
  | cons x w ih =>
    obtain ⟨y, q⟩ := x
    unfold updTab
    by_cases e : (y == k) = true
    · have ey : y = k := eq_of_beq e
      subst ey
      rw [if_pos e, List.lookup_cons, List.lookup_cons]
      by_cases h : j = y
      · subst h; simp
      · have : (j == y) = false := by simpa using h
        simp [this, h]
    · rw [if_neg e, List.lookup_cons, List.lookup_cons, ih]
      have ne : y ≠ k := by simpa using e
      by_cases h : j = y
      · subst h
        simp [ne]
      · have : (j == y) = false := by simpa using h
        simp [this]
theorem updTab_keys (w : Tab) (k : Str) (v : Int) : (∀ x ∈ updTab w k v, x.1 = k ∨ x.1 ∈ w.map (·.1)) ∧ ((w.map (·.1)).Nodup → ((updTab w k v).map (·.1)).Nodup) := by
  induction w with
  | nil => exact ⟨by simp [updTab], by simp [updTab]⟩
  | cons x w ih =>
    obtain ⟨y, q⟩ := x
    unfold updTab
    by_cases e : (y == k) = true
    · have ey : y = k := eq_of_beq e
      subst ey
      rw [if_pos e]
      refine ⟨fun x hx => ?_, fun h => by simpa using h⟩
      rcases List.mem_cons.mp hx with rfl | hx
      · exact .inl rfl
      · exact .inr (by simp only [List.map_cons, List.mem_cons]; exact .inr (List.mem_map.mpr ⟨_, hx, rfl⟩))
    · rw [if_neg e]
      have ne : y ≠ k := by simpa using e
      refine ⟨fun x hx => ?_, fun h => ?_⟩
      · rcases List.mem_cons.mp hx with rfl | hx
        · exact .inr (by simp)
        · rcases ih.1 x hx with h | h
          · exact .inl h
          · exact .inr (by simp only [List.map_cons, List.mem_cons]; exact .inr h)
      · simp only [List.map_cons, List.nodup_cons] at h ⊢
        refine ⟨fun hm => ?_, ih.2 h.2⟩
        obtain ⟨z, hz, hz'⟩ := List.mem_map.mp hm
        rcases ih.1 z hz with q | q
        · exact ne (hz'.symm.trans q)
        · exact h.1 (hz' ▸ q)
noncomputable def addOne (w : Tab) (t : Tm) : Tab := if isVar t = true then updTab w (opOf t) ((w.lookup (opOf t)).getD 0 + 1) else w
noncomputable def cntL (l : List Tm) : Tab := l.foldl addOne []
theorem cntL_snoc (l : List Tm) (t : Tm) : cntL (l ++ [t]) = addOne (cntL l) t := by simp [cntL]
theorem var_op {t : Tm} (h : isVar t = true) : opOf t = Str.ofString "?x" ∨ opOf t = Str.ofString "?y" := by
  cases t with
  | L l => cases l <;> first | (exfalso; revert h; decide) | exact .inl rfl | exact .inr rfl
  | F _ => cases h
  | G _ _ => cases h
theorem cnt_keys (l : List Tm) : (∀ x ∈ cntL l, x.1 = Str.ofString "?x" ∨ x.1 = Str.ofString "?y") ∧ ((cntL l).map (·.1)).Nodup := by
  suffices h : ∀ (l : List Tm) (w : Tab), (∀ x ∈ w, x.1 = Str.ofString "?x" ∨ x.1 = Str.ofString "?y") → (w.map (·.1)).Nodup → (∀ x ∈ l.foldl addOne w, x.1 = Str.ofString "?x" ∨ x.1 = Str.ofString "?y") ∧ ((l.foldl addOne w).map (·.1)).Nodup from
    h l [] (by simp) (by simp)
  intro l
  induction l with
  | nil => intro w h1 h2; exact ⟨h1, h2⟩
  | cons t l ih =>
    intro w h1 h2
    rw [List.foldl_cons]
    unfold addOne
    split
    · rename_i hv
      refine ih _ (fun x hx => ?_) ((updTab_keys _ _ _).2 h2)
      rcases (updTab_keys _ _ _).1 x hx with q | q
      · rw [q]; exact var_op hv
      · obtain ⟨z, hz, e⟩ := List.mem_map.mp q
        rw [← e]; exact h1 z hz
    · exact ih w h1 h2
theorem cnt_small (l : List Tm) : (cntL l).length ≤ 2 := by
  obtain ⟨h1, h2⟩ := cnt_keys l
  have two : ∀ {m : List Str} {p q : Str}, m.Nodup → (∀ x ∈ m, x = p ∨ x = q) → m.length ≤ 2 := by
    intro m p q hn hm
    match m, hn, hm with
    | [], _, _ => simp
    | [_], _, _ => simp
    | [_, _], _, _ => simp
    | x :: y :: z :: r, hn, hm =>
      exfalso
      simp only [List.nodup_cons, List.mem_cons, not_or] at hn
      have a1 := hm x (by simp)
      have a2 := hm y (by simp)
      have a3 := hm z (by simp)
      rcases a1 with rfl | rfl <;> rcases a2 with rfl | rfl <;> rcases a3 with rfl | rfl <;> simp_all
  have := two h2 (p := Str.ofString "?x") (q := Str.ofString "?y") fun k hk => by
    obtain ⟨z, hz, e⟩ := List.mem_map.mp hk
    rw [← e]; exact h1 z hz
  simpa using this
theorem cnt_get (l : List Tm) (k : Str) : ((cntL l).lookup k).getD 0 = ((l.filter fun t => isVar t && opOf t == k).length : Int) := by
  suffices h : ∀ (l : List Tm) (w : Tab), ((l.foldl addOne w).lookup k).getD 0 = (w.lookup k).getD 0 + ((l.filter fun t => isVar t && opOf t == k).length : Int) by
    have := h l []
    simpa [cntL] using this
  intro l
  induction l with
  | nil => intro w; simp
  | cons t l ih =>
    intro w
    rw [List.foldl_cons, ih, List.filter_cons]
    unfold addOne
    by_cases hv : isVar t = true
    · rw [if_pos hv, updTab_get]
      by_cases hk : k = opOf t
      · subst hk
        simp [hv]; omega
      · have : (opOf t == k) = false := by simpa using fun q : opOf t = k => hk q.symm
        simp [hv, this, hk]
    · simp [hv]
theorem counted_spec {C : Ctx0} {n : Nat} {st : List PObj} (t : Tm) (hn : ht t ≤ n) (h16 : ht t < 16) : CF C (n + 1) 81 [tm t] st (fun v st' => ∃ k, v = .loc k ∧ TabAt' st' k (cntL ((partsL t).map (·.2))) ∧ KO [] st st') := by
  refine CF.enter (names := ["t"]) (by k_is) (by k_is) rfl (len1 (fun a => by exact rfl)) (by decide) (by decide) (by decide) (by decide) (by decide) (by decide) (by decide) (by decide) ?_
  walk_at "py"
  refine W.dictS ?_
  walk_at "py"
  refine X1.for_inv (fun e x => rfl) (WI.list ?_)
  walk_at "py"
  refine CF.goL (parts_spec n t _ hn h16) (Nat.le_refl _) fun k st₁ hl hko => ?_
  have hk0 : (st ++ [PObj.sd [] 0])[st.length]? = some (.sd [] 0) := get_new
  have hlk : st.length < st₁.length := Nat.lt_of_lt_of_le (by simp) hko.1
  have hkk : k ≠ st.length := fun q => by
    subst q
    have := hko.get hk0
    rw [hl] at this; cases this
  refine ⟨k, _, rfl, hl, (fun i ρ' st' => (ρ' = upd ([Str.ofString "t"].zip [tm t]) (Str.ofString "found") (PV.loc st.length) ∨ ∃ a b, ρ' = upd (upd (upd ([Str.ofString "t"].zip [tm t]) (Str.ofString "found") (PV.loc st.length)) (Str.ofString "path") a) (Str.ofString "part") b) ∧ KO [st.length] st₁ st' ∧ TabAt' st' st.length (cntL (((partsL t).take i).map (·.2)))), hl, ⟨.inl rfl, KO.refl _ _, ⟨0, hko.get hk0⟩⟩, ?_, ?_⟩
  · rintro i p ρ' st₂ hp ⟨hρ, hko2, ep, htab⟩ hG
    rw [List.getElem?_map] at hp
    cases hx : (partsL t)[i]? with
    | none => rw [hx] at hp; cases hp
    | some x =>
      rw [hx] at hp
      cases hp
      refine Asg.tup (fun e => rfl) (ps := [.tup (x.1.map fun (i : Nat) => .int i), tm x.2]) rfl rfl ?_
      refine AsgO.nameC (by decide) (AsgO.nameC (by decide) ?_)
      show X C n _ _ (upd (upd ρ' (Str.ofString "path") _) (Str.ofString "part") _) st₂ _ _
      have e : ∀ a b, upd (upd ρ' (Str.ofString "path") a) (Str.ofString "part") b = upd (upd (upd ([Str.ofString "t"].zip [tm t]) (Str.ofString "found") (PV.loc st.length)) (Str.ofString "path") a) (Str.ofString "part") b := by
        intro a b; rcases hρ with rfl | ⟨_, _, rfl⟩ <;> rfl
      rw [e]
      have hsn : cntL (((partsL t).take (i + 1)).map (·.2)) = addOne (cntL (((partsL t).take i).map (·.2))) x.2 := by
        rw [List.take_add_one, hx, List.map_append]; exact cntL_snoc _ _
      walk_at "py"
      refine CF.go0 ((isv_spec (n := 0) x.2).up (by have := ht_pos t; omega)) (Nat.le_refl _) ?_
      refine ⟨_, rfl, fun hb => ?_, fun hb => ?_⟩
      · walk_at "py"
        refine ⟨by rw [if_pos rfl]; simp [isDict, htab], ?_⟩
        walk_at "py"
        refine ItemOp.tm0 ?_
        walk_at "py"
        refine OpN.getSd htab ?_
        rw [tab_get]
        walk_at "py"
        refine ItemOp.tm0 ?_
        refine SetOp.sd htab (by have := cnt_small (((partsL t).take i).map (·.2)); unfold tabPV; rw [List.length_map]; omega) fun ep' => ?_
        rw [tab_upd]
        walk_at "py"
        refine ⟨?_, .inr ⟨_, _, by first | exact e _ _ | rfl⟩, hko2.trans (KO.set _ _ _), ⟨ep', ?_⟩⟩
        · show (st₂.set st.length _)[k]? = _
          rw [List.getElem?_set_ne (Ne.symm hkk)]; exact hG
        · rw [get_set htab, hsn]
          unfold addOne
          rw [if_pos hb]
      · walk_at "py"
        refine ⟨hG, .inr ⟨_, _, by first | exact e _ _ | rfl⟩, hko2, ⟨ep, ?_⟩⟩
        rw [htab, hsn]
        unfold addOne
        rw [if_neg (by rw [hb]; simp)]
  · rintro ρ' st₂ ⟨hρ, hko2, htab⟩
    rw [List.length_map, List.take_length] at htab
    have fin : ∃ k, PV.loc st.length = .loc k ∧ TabAt' st₂ k (cntL ((partsL t).map (·.2))) ∧ KO [] st st₂ := by
      refine ⟨_, rfl, htab, ?_⟩
      have h1 : KO [] st st₁ := (KO.app [] st _).trans hko
      exact ⟨Nat.le_trans h1.1 hko2.1, fun j po _ e => hko2.2 j po (by have := get_lt e; simp; omega) (h1.get e)⟩
    rcases hρ with rfl | ⟨a, b, rfl⟩
    · walk_at "py"
      exact fin
    · walk_at "py"
      exact fin
noncomputable abbrev pts (t : Tm) : List Tm := (partsL t).map (·.2)
noncomputable def cntOf (t : Tm) (k : Str) : Int := ((cntL (pts t)).lookup k).getD 0
noncomputable def bad (s t : Tm) : Bool := ((cntL (pts t)).map (·.1)).any fun k => decide (cntOf t k > cntOf s k)
noncomputable def firstAb (f : Tm → Tm → Bool) : List Tm → List Tm → Bool
  | a :: as, b :: bs => if a ≠ b then f a b else firstAb f as bs
  | _, _ => false
noncomputable def same3 (rk : Tab) (s t : Tm) : Bool := rkOf rk s == rkOf rk t && opOf s == opOf t && (kids s).length == (kids t).length
noncomputable def ab (wt rk : Tab) : Nat → Tm → Tm → Bool
  | 0, _, _ => false
  | n + 1, s, t =>
    if (isVar s || decide (s = t) || bad s t) = true then false
    else if (weightV wt s != weightV wt t || isVar t) = true then decide (weightV wt s > weightV wt t)
    else gt3 (rkOf rk s) (opOf s) (kids s).length (rkOf rk t) (opOf t) (kids t).length || (same3 rk s t && firstAb (ab wt rk n) (kids s) (kids t))
noncomputable def abv (wt rk : Tab) (s t : Tm) : Bool := ab wt rk (ht s) s t
theorem firstAb_congr {f g : Tm → Tm → Bool} : ∀ (as bs : List Tm), (∀ a ∈ as, ∀ b, f a b = g a b) → firstAb f as bs = firstAb g as bs
  | [], _, _ => rfl
  | a :: as, [], _ => rfl
  | a :: as, b :: bs, h => by
    unfold firstAb
    rw [h a (.head _) b, firstAb_congr as bs fun x hx => h x (.tail _ hx)]
theorem ab_fuel (wt rk : Tab) : ∀ (n m : Nat) (s t : Tm), ht s ≤ n → ht s ≤ m → ab wt rk n s t = ab wt rk m s t
  | 0, _, s, _, h, _ => by have := ht_pos s; omega
  | _, 0, s, _, _, h => by have := ht_pos s; omega
  | n + 1, m + 1, s, t, h1, h2 => by
    unfold ab
    rw [firstAb_congr (f := ab wt rk n) (g := ab wt rk m) (kids s) (kids t) fun a ha b => ab_fuel wt rk n m a b (by have := kids_ht ha; omega) (by have := kids_ht ha; omega)]
theorem abv_eq (wt rk : Tab) (s t : Tm) : abv wt rk s t = (if (isVar s || decide (s = t) || bad s t) = true then false
    else if (weightV wt s != weightV wt t || isVar t) = true then decide (weightV wt s > weightV wt t)
    else gt3 (rkOf rk s) (opOf s) (kids s).length (rkOf rk t) (opOf t) (kids t).length || (same3 rk s t && firstAb (abv wt rk) (kids s) (kids t))) := by
  have hp := ht_pos s
  obtain ⟨m, hm⟩ : ∃ m, ht s = m + 1 := ⟨ht s - 1, by walk_at "om"⟩
  have e : ab wt rk (ht s) s t = ab wt rk (m + 1) s t := by rw [hm]
  unfold abv
  first | refine X.rho (e _) ?_ | refine X.rho (e _ _) ?_ | refine W.rho (e _ _) ?_ | refine W.rho (e _) ?_ | rw [e]
  have e2 : firstAb (ab wt rk m) (kids s) (kids t) = firstAb (fun a b => ab wt rk (ht a) a b) (kids s) (kids t) := firstAb_congr _ _ fun a ha b => ab_fuel wt rk _ _ a b (by have := kids_ht ha; omega) (Nat.le_refl _)
  rw [ab, e2]

noncomputable def KnOk (wt rk : Tab) (st : List PObj) (kn N : Nat) : Prop := ∃ kvs, st[kn]? = some (.td kvs) ∧ (∀ s t q, tget kvs (.tup [tm s, tm t]) = some q → q = .bool (abv wt rk s t)) ∧ kvs.length ≤ N
theorem KnOk.ko {wt rk : Tab} {st st' : List PObj} {kn N : Nat} {S : List Nat} (h : KnOk wt rk st kn N) (k : KO S st st') (hi : kn ∉ S) : KnOk wt rk st' kn N := by
  obtain ⟨kvs, e, r⟩ := h
  exact ⟨kvs, k.2 _ _ hi e, r⟩
/-- what an order stands on -/
structure Ord (wt rk : Tab) (ri kn wi N : Nat) (st : List PObj) : Prop where
  r : TabAt' st ri rk
  w : TabAt' st wi wt
  k : KnOk wt rk st kn N
  rk : ri ≠ kn
  wk : wi ≠ kn
theorem Ord.ko {wt rk : Tab} {ri kn wi N : Nat} {st st' : List PObj} (h : Ord wt rk ri kn wi N st) (k : KO [] st st') : Ord wt rk ri kn wi N st' := ⟨h.r.ko k (by simp), h.w.ko k (by simp), h.k.ko k (by simp), h.rk, h.wk⟩
theorem Ord.step {wt rk : Tab} {ri kn wi N M : Nat} {st st' : List PObj} (h : Ord wt rk ri kn wi N st) (k : KO [kn] st st') (hk : KnOk wt rk st' kn M) : Ord wt rk ri kn wi M st' := ⟨h.r.ko k (by simp [h.rk]), h.w.ko k (by simp [h.wk]), hk, h.rk, h.wk⟩

noncomputable def AboveS (C : Ctx0) (wt rk : Tab) (ri kn wi : Nat) (n : Nat) (s t : Tm) : Prop := ∀ (N : Nat) (st : List PObj), N ≤ 1000 → Ord wt rk ri kn wi N st →
  CF C n 102 [selfPV ri kn wi, tm s, tm t] st (fun v st' => v = .bool (abv wt rk s t) ∧ KnOk wt rk st' kn (N + ht s) ∧ KO [kn] st st')

theorem first_spec {C : Ctx0} {wt rk : Tab} {ri kn wi n : Nat} (ss ts : List Tm) (m : Nat) (ih : ∀ s ∈ ss, ∀ t ∈ ts, AboveS C wt rk ri kn wi n s t) (hm : ∀ s ∈ ss, ht s ≤ m) (h7 : ∀ s ∈ ss, ht s ≤ 7) (h7' : ∀ t ∈ ts, ht t ≤ 7) {N : Nat} {st : List PObj} (hN : N ≤ 1000) (O : Ord wt rk ri kn wi N st) :
    CF C (n + 1) 114 [selfPV ri kn wi, .tup (ss.map tm), .tup (ts.map tm)] st (fun v st' => v = .bool (firstAb (abv wt rk) ss ts) ∧ KnOk wt rk st' kn (N + m) ∧ KO [kn] st st') := by
  refine CF.enter (names := ["self", "some", "others"]) (by k_is) (by k_is) rfl (len3 (fun a b c => by exact rfl)) (by decide) (by decide) (by decide) (by decide) (by decide) (by decide) (by decide) (by decide) ?_
  walk_at "py"
  refine X1.for_inv (fun e x => rfl) (WI.zip (by decide) (by k_is) (by first | boot_by_name | rfl | kernel_rfl) (by decide) (by decide) (fun e => rfl) (fun e => rfl) (fun e => rfl) ?_)
  walk_at "py"
  refine ⟨_, _, rfl, (fun i ρ' st' => (ρ' = [Str.ofString "self", Str.ofString "some", Str.ofString "others"].zip [selfPV ri kn wi, PV.tup (ss.map tm), PV.tup (ts.map tm)] ∨ ∃ a b, ρ' = upd (upd ([Str.ofString "self", Str.ofString "some", Str.ofString "others"].zip [selfPV ri kn wi, PV.tup (ss.map tm), PV.tup (ts.map tm)]) (Str.ofString "kid") a) (Str.ofString "late") b) ∧ st' = st ∧ firstAb (abv wt rk) ss ts = firstAb (abv wt rk) (ss.drop i) (ts.drop i)), trivial, ⟨.inl rfl, rfl, rfl⟩, ?_, ?_⟩
  · rintro i p ρ' st₁ hp ⟨hρ, rfl, hf⟩ _
    obtain ⟨a, b, ha, hb, rfl⟩ := zipped_get _ _ _ _ hp
    rw [List.getElem?_map] at ha hb
    cases hs : ss[i]? with
    | none => rw [hs] at ha; cases ha
    | some s =>
      cases ht' : ts[i]? with
      | none => rw [ht'] at hb; cases hb
      | some t =>
        rw [hs] at ha; rw [ht'] at hb
        cases ha; cases hb
        obtain ⟨ls, es⟩ := List.getElem?_eq_some_iff.mp hs
        obtain ⟨lt, et⟩ := List.getElem?_eq_some_iff.mp ht'
        have ms := List.mem_of_getElem? hs
        have mt := List.mem_of_getElem? ht'
        rw [List.drop_eq_getElem_cons ls, List.drop_eq_getElem_cons lt, es, et] at hf
        refine Asg.tup (fun e => rfl) rfl rfl ?_
        refine AsgO.nameC (by decide) (AsgO.nameC (by decide) ?_)
        show X C n _ _ (upd (upd ρ' (Str.ofString "kid") (tm s)) (Str.ofString "late") (tm t)) st₁ _ _
        have e : ∀ a b, upd (upd ρ' (Str.ofString "kid") a) (Str.ofString "late") b = upd (upd ([Str.ofString "self", Str.ofString "some", Str.ofString "others"].zip [selfPV ri kn wi, PV.tup (ss.map tm), PV.tup (ts.map tm)]) (Str.ofString "kid") a) (Str.ofString "late") b := by
          intro a b; rcases hρ with rfl | ⟨_, _, rfl⟩ <;> rfl
        first | refine X.rho (e _) ?_ | refine X.rho (e _ _) ?_ | refine W.rho (e _ _) ?_ | refine W.rho (e _) ?_ | rw [e]
        walk_at "py"
        refine Op2.neD (dtOk_of_keyOk _ _ (tm_key s _ (by have := h7 s ms; omega))) (dtOk_of_keyOk _ _ (tm_key t _ (by have := h7' t mt; omega))) ?_
        rw [tm_eqv]
        refine ⟨_, rfl, fun hb => ?_, fun hb => ?_⟩
        · walk_at "py"
          refine ⟨⟨_, rfl, rfl⟩, ?_⟩
          walk_at "py"
          refine CF.go3 (ih s ms t mt N st₁ hN O) (Nat.le_refl _) fun st₂ hk hko => ?_
          have hne : s ≠ t := by simpa using hb
          refine ⟨?_, ?_, hko⟩
          · rw [hf]; unfold firstAb; rw [if_pos hne]
          · obtain ⟨kvs, e1, e2, e3⟩ := hk
            exact ⟨kvs, e1, e2, Nat.le_trans e3 (by have := hm s ms; omega)⟩
        · walk_at "py"
          have he : s = t := by simpa using hb
          refine ⟨trivial, .inr ⟨_, _, by first | exact e _ _ | rfl⟩, rfl, ?_⟩
          rw [hf]
          conv => lhs; unfold firstAb
          rw [if_neg (by simp [he])]
  · rintro ρ' st₁ ⟨hρ, rfl, hf⟩
    have hf' : firstAb (abv wt rk) ss ts = false := by
      rw [hf, zipped_length, List.length_map, List.length_map]
      rcases Nat.le_total ss.length ts.length with h | h
      · rw [Nat.min_eq_left h, List.drop_length]; rfl
      · rw [Nat.min_eq_right h, List.drop_length]
        cases ss.drop ts.length <;> rfl
    have fin : PV.bool false = PV.bool (firstAb (abv wt rk) ss ts) ∧ KnOk wt rk st₁ kn (N + m) ∧ KO [kn] st₁ st₁ := by
      rw [hf']
      obtain ⟨kvs, e1, e2, e3⟩ := O.k
      exact ⟨rfl, ⟨kvs, e1, e2, by walk_at "om"⟩, KO.refl _ _⟩
    rcases hρ with rfl | ⟨a, b, rfl⟩
    · walk_at "py"
      exact fin
    · walk_at "py"
      exact fin
theorem tab_lookup (w : Tab) (k : Str) : (tabPV w).lookup k = (w.lookup k).map .int := by
  induction w with
  | nil => rfl
  | cons x w ih =>
    obtain ⟨y, i⟩ := x
    simp only [tabPV, List.map_cons, List.lookup_cons] at ih ⊢
    cases k == y with
    | true => rfl
    | false => exact ih
theorem lookup_of_key {w : Tab} {k : Str} (h : k ∈ w.map (·.1)) : w.lookup k = some ((w.lookup k).getD 0) := by
  induction w with
  | nil => simp at h
  | cons x w ih =>
    obtain ⟨y, i⟩ := x
    rw [List.lookup_cons]
    cases e : k == y with
    | true => rfl
    | false =>
      simp only [List.map_cons, List.mem_cons] at h
      have : k ≠ y := by simpa using e
      exact ih (h.resolve_left this)
theorem op_ok (t : Tm) : PyData.strOk (opOf t) = true := by
  cases t with
  | L l => cases l <;> decide +kernel
  | F _ => show PyData.strOk (Str.ofString "f") = true; decide +kernel
  | G _ _ => show PyData.strOk (Str.ofString "g") = true; decide +kernel
theorem place_ok (i : Int) (t : Tm) (j : Int) : dtOk 10 (.tup [.int i, .str (opOf t), .int j]) = true := by
  show (true && (PyData.strOk (opOf t) && (true && true))) = true
  rw [op_ok]; rfl
theorem place_eqv (rk : Tab) (s t : Tm) : PyData.eqv (toPy (.tup [.int (rkOf rk s), .str (opOf s), .int (kids s).length])) (toPy (.tup [.int (rkOf rk t), .str (opOf t), .int (kids t).length])) = same3 rk s t := by
  have e : ∀ (a b : Nat), ((a : Int) == (b : Int)) = (a == b) := fun a b => by
    by_cases h : a = b
    · subst h; simp
    · have h' : ((a : Int)) ≠ (b : Int) := by walk_at "om"
      rw [beq_eq_false_iff_ne.mpr h, beq_eq_false_iff_ne.mpr h']
  simp only [toPy, toPys, PyData.eqv, PyData.eqvAll, same3, Bool.and_true, e, Bool.and_assoc]
theorem isab_spec {C : Ctx0} {wt rk : Tab} {ri kn wi n : Nat} (s t : Tm) (hn : 9 ≤ n) (hs : ht s ≤ 7) (ht' : ht t ≤ 7) (ih : ∀ a ∈ kids s, ∀ b ∈ kids t, AboveS C wt rk ri kn wi n a b) {N : Nat} {st : List PObj} (hN : N ≤ 1000) (O : Ord wt rk ri kn wi N st) :
    CF C (n + 2) 147 [selfPV ri kn wi, tm s, tm t] st (fun v st' => v = .bool (abv wt rk s t) ∧ KnOk wt rk st' kn (N + (ht s - 1)) ∧ KO [kn] st st') := by
  refine CF.enter (names := ["self", "s", "t"]) (by k_is) (by k_is) rfl (len3 (fun a b c => by exact rfl)) (by decide) (by decide) (by decide) (by decide) (by decide) (by decide) (by decide) (by decide) ?_
  walk_at "py"
  refine X1.assignT (fun e => rfl) (fun env e hk => ?_) ?_
  · unfold swappedStores Env.blockKind Env.kindOf
    rw [hk, e]
    rfl
  walk_at "py"
  refine CF.goL ((counted_spec (n := n) s (by walk_at "om") (by walk_at "om"))) (by walk_at "om") fun mi st₁ hmi hko1 => ?_
  walk_at "py"
  refine CF.goL ((counted_spec (n := n) t (by walk_at "om") (by walk_at "om"))) (by walk_at "om") fun th st₂ hth hko2 => ?_
  walk_at "py"
  refine ⟨by simp, ?_⟩
  refine Asg.tup (fun e => rfl) rfl rfl ?_
  refine AsgO.nameC (by decide) (AsgO.nameC (by decide) ?_)
  show X C (n + 1) _ _ (upd (upd ([Str.ofString "self", Str.ofString "s", Str.ofString "t"].zip [selfPV ri kn wi, tm s, tm t]) (Str.ofString "mine") (.loc mi)) (Str.ofString "theirs") (.loc th)) st₂ _ _
  have hmi2 := hmi.ko hko2 (by simp)
  have O2 := O.ko (hko1.trans hko2)
  have KF : KnOk wt rk st₂ kn (N + (ht s - 1)) := by
    obtain ⟨kvs, e1, e2, e3⟩ := O2.k
    exact ⟨kvs, e1, e2, by walk_at "om"⟩
  have hko02 : KO [kn] st st₂ := (hko1.trans hko2).any
  rw [abv_eq]
  walk_at "py"
  refine CF.go0 ((isv_spec (n := 0) s)) (by walk_at "om") ?_
  refine ⟨_, rfl, fun hb => ?_, fun hb => ?_⟩
  · refine ⟨fun _ => ?_, fun h => by cases h⟩
    walk_at "py"
    exact ⟨by rw [if_pos (by simp [hb])], KF, hko02⟩
  walk_at "py"
  refine Op2.eqD (dtOk_of_keyOk _ _ (tm_key s _ (by walk_at "om"))) (dtOk_of_keyOk _ _ (tm_key t _ (by walk_at "om"))) ?_
  rw [tm_eqv]
  refine ⟨_, rfl, fun hb2 => ?_, fun hb2 => ?_⟩
  · refine ⟨fun _ => ?_, fun h => by cases h⟩
    walk_at "py"
    exact ⟨by rw [if_pos (by simp [hb2])], KF, hko02⟩
  walk_at "py"
  refine WI.list ?_
  walk_at "py"
  obtain ⟨epm, hmi3⟩ := hmi2
  obtain ⟨ept, hth3⟩ := hth
  refine OpN.sortedD hth3 (by simpa [tabPV] using Nat.lt_of_le_of_lt (cnt_small (pts t)) (by decide : 2 < 64)) fun ss hss => ?_
  have hkeys : ∀ k ∈ ss, k ∈ (cntL (pts t)).map (·.1) := fun k hk => by
    have := hss.mem_iff.mp hk
    simpa [tabPV, List.map_map, Function.comp_def] using this
  have hss2 : ss.length ≤ 2 := by
    have := hss.length_eq
    rw [this]
    simpa [tabPV] using cnt_small (pts t)
  have hok : ∀ k ∈ ss, k = Str.ofString "?x" ∨ k = Str.ofString "?y" := fun k hk => by
    obtain ⟨z, hz, e⟩ := List.mem_map.mp (hkeys k hk)
    rw [← e]; exact (cnt_keys (pts t)).1 z hz
  have hbad : bad s t = ss.any fun k => decide (cntOf t k > cntOf s k) := by
    unfold bad
    have hp : ss.Perm ((cntL (pts t)).map (·.1)) := by simpa [tabPV, List.map_map, Function.comp_def] using hss
    rw [Bool.eq_iff_iff, List.any_eq_true, List.any_eq_true]
    exact ⟨fun ⟨k, h1, h2⟩ => ⟨k, hp.mem_iff.mpr h1, h2⟩, fun ⟨k, h1, h2⟩ => ⟨k, hp.mem_iff.mp h1, h2⟩⟩
  have hS : (st₂ ++ [PObj.list (ss.map .str)])[st₂.length]? = some (.list (ss.map .str)) := get_new
  refine ⟨_, _, rfl, hS, hS, by rw [List.length_map]; omega, ?_⟩
  refine CT.inv (all := ss.map .str) (fun i ρ' acc st' => (ρ' = [(Str.ofString "mine", PV.loc mi), (Str.ofString "theirs", PV.loc th)] ∨ ∃ a, ρ' = upd [(Str.ofString "mine", PV.loc mi), (Str.ofString "theirs", PV.loc th)] (Str.ofString "name") a) ∧ acc = ((ss.take i).filter fun k => decide (cntOf t k > cntOf s k)).map .str ∧ KO [] (st₂ ++ [PObj.list (ss.map .str)]) st') ?_ ?_ (ss.map .str) 0 _ [] _ rfl (Nat.zero_le _) ⟨.inl rfl, by simp, KO.refl _ _⟩ hS
  · rintro i p ρ' acc st₄ hp ⟨hρ, rfl, hko⟩ hG
    rw [List.getElem?_map] at hp
    cases hk : ss[i]? with
    | none => rw [hk] at hp; cases hp
    | some k =>
      rw [hk] at hp
      cases hp
      have mk := List.mem_of_getElem? hk
      refine AsgL.name (by decide) ?_
      have e : ∀ a, upd ρ' (Str.ofString "name") a = upd [(Str.ofString "mine", PV.loc mi), (Str.ofString "theirs", PV.loc th)] (Str.ofString "name") a := by
        intro a; rcases hρ with rfl | ⟨_, rfl⟩ <;> rfl
      rw [e]
      have hm4 := hko.get (get_app hmi3)
      have ht4 := hko.get (get_app hth3)
      have hsn : ((ss.take (i + 1)).filter fun k => decide (cntOf t k > cntOf s k)).map PV.str = ((ss.take i).filter fun k => decide (cntOf t k > cntOf s k)).map PV.str ++ (if decide (cntOf t k > cntOf s k) = true then [PV.str k] else []) := by
        rw [List.take_add_one, hk, List.filter_append, List.map_append]
        congr 1
        simp only [Option.toList, List.filter_cons, List.filter_nil]
        split <;> rfl
      show T C (n + 1) _ _ _ _ _
      walk_at "py"
      refine ItemOp.sd ht4 (p := .int (cntOf t k)) (by rw [tab_lookup, lookup_of_key (hkeys k mk)]; rfl) ?_
      walk_at "py"
      refine ⟨by rw [if_pos rfl]; simp [isDict, hm4], ?_⟩
      walk_at "py"
      refine OpN.getSd hm4 ?_
      rw [tab_get]
      walk_at "py"
      refine ⟨_, rfl, fun hb => ?_, fun hb => ?_⟩
      · walk_at "py"
        exact ⟨hG, .inr ⟨_, rfl⟩, by rw [hsn, if_pos (by exact hb)], hko⟩
      · exact ⟨hG, .inr ⟨_, rfl⟩, by rw [hsn, if_neg (by rw [show decide (cntOf t k > cntOf s k) = false from hb]; simp), List.append_nil], hko⟩
  rintro ρ' acc st₄ ⟨_, rfl, hko⟩
  rw [List.length_map, List.take_length]
  walk_at "py"
  refine ⟨by simp, ?_⟩
  refine Op2.neL (get_app get_new) get_new (fun p hp => ?_) (by simp) ?_
  · obtain ⟨k, hk, rfl⟩ := List.mem_map.mp hp
    rcases hok k (List.mem_filter.mp hk).1 with rfl | rfl <;> (show PyData.strOk _ = true; decide +kernel)
  have hne : (!PyData.eqvAll (toPys ((ss.filter fun k => decide (cntOf t k > cntOf s k)).map .str)) (toPys [])) = bad s t := by
    rw [hbad]
    cases hf : ss.filter fun k => decide (cntOf t k > cntOf s k) with
    | nil =>
      have : (ss.any fun k => decide (cntOf t k > cntOf s k)) = false := by
        rw [List.any_eq_false]
        intro k hk
        have := List.filter_eq_nil_iff.mp hf k hk
        simpa using this
      rw [this]; rfl
    | cons k r =>
      have : (ss.any fun k => decide (cntOf t k > cntOf s k)) = true := by
        rw [List.any_eq_true]
        have hk : k ∈ ss.filter fun k => decide (cntOf t k > cntOf s k) := by rw [hf]; exact .head _
        exact ⟨k, (List.mem_filter.mp hk).1, (List.mem_filter.mp hk).2⟩
      rw [this]; rfl
  rw [hne]
  have hko34 : KO [] st₂ (st₄ ++ [PObj.list ((ss.filter fun k => decide (cntOf t k > cntOf s k)).map .str)] ++ [PObj.list []]) := (((KO.app [] st₂ _).trans hko).trans (KO.app _ _ _)).trans (KO.app _ _ _)
  have O5 := O2.ko hko34
  have hko05 : KO [kn] st (st₄ ++ [PObj.list ((ss.filter fun k => decide (cntOf t k > cntOf s k)).map .str)] ++ [PObj.list []]) := hko02.trans hko34.any
  have KF5 := KF.ko hko34 (by simp)
  generalize (st₄ ++ [PObj.list ((ss.filter fun k => decide (cntOf t k > cntOf s k)).map .str)] ++ [PObj.list []]) = st₅ at *
  refine ⟨_, rfl, fun hb3 => ?_, fun hb3 => ?_⟩
  · refine ⟨fun _ => ?_, fun h => by cases h⟩
    walk_at "py"
    exact ⟨by rw [if_pos (by simp [hb3])], KF5, hko05⟩
  walk_at "py"
  rw [if_neg (by simp [hb, hb2, hb3])]
  refine ⟨fun h => (by cases h), fun _ => ?_⟩
  walk_at "py"
  refine ⟨⟨_, rfl, rfl⟩, ?_⟩
  walk_at "py"
  refine CF.go ((weight_spec (n := n) O5.w s (by walk_at "om") (by walk_at "om"))) (by walk_at "om") fun st₆ hko6 => ?_
  have O6 := O5.ko hko6
  walk_at "py"
  refine ⟨⟨_, rfl, rfl⟩, ?_⟩
  walk_at "py"
  refine CF.go ((weight_spec (n := n) O6.w t (by walk_at "om") (by walk_at "om"))) (by walk_at "om") fun st₇ hko7 => ?_
  have O7 := O6.ko hko7
  have hko07 : KO [kn] st st₇ := hko05.trans (hko6.trans hko7).any
  have KF7 := KF5.ko (hko6.trans hko7) (by simp)
  walk_at "py"
  refine ⟨_, rfl, fun hb4 => ?_, fun hb4 => ?_⟩
  · refine ⟨fun _ => ?_, fun h => by cases h⟩
    walk_at "py"
    refine ⟨⟨_, rfl, rfl⟩, ?_⟩
    walk_at "py"
    refine CF.go ((weight_spec (n := n) O7.w s (by walk_at "om") (by walk_at "om"))) (by walk_at "om") fun st₈ hko8 => ?_
    walk_at "py"
    refine ⟨⟨_, rfl, rfl⟩, ?_⟩
    walk_at "py"
    refine CF.go ((weight_spec (n := n) (O7.ko hko8).w t (by walk_at "om") (by walk_at "om"))) (by walk_at "om") fun st₉ hko9 => ?_
    walk_at "py"
    exact ⟨by rw [if_pos (by simpa using .inl (by simpa using hb4))], KF7.ko (hko8.trans hko9) (by simp), hko07.trans (hko8.trans hko9).any⟩
  walk_at "py"
  refine CF.go0 ((isv_spec (n := 0) t)) (by walk_at "om") ?_
  refine ⟨_, rfl, fun hb5 => ?_, fun hb5 => ?_⟩
  · refine ⟨fun _ => ?_, fun h => by cases h⟩
    walk_at "py"
    refine ⟨⟨_, rfl, rfl⟩, ?_⟩
    walk_at "py"
    refine CF.go ((weight_spec (n := n) O7.w s (by walk_at "om") (by walk_at "om"))) (by walk_at "om") fun st₈ hko8 => ?_
    walk_at "py"
    refine ⟨⟨_, rfl, rfl⟩, ?_⟩
    walk_at "py"
    refine CF.go ((weight_spec (n := n) (O7.ko hko8).w t (by walk_at "om") (by walk_at "om"))) (by walk_at "om") fun st₉ hko9 => ?_
    walk_at "py"
    exact ⟨by rw [if_pos (by simp [hb5])], KF7.ko (hko8.trans hko9) (by simp), hko07.trans (hko8.trans hko9).any⟩
  walk_at "py"
  refine ⟨fun h => (by cases h), fun _ => ?_⟩
  rw [if_neg (by simpa [hb5] using hb4)]
  walk_at "py"
  refine X1.assignT2 (fun e => rfl) (fun env e hk => ?_) (by decide) (by decide) ?_
  · unfold swappedStores Env.blockKind Env.kindOf
    rw [hk, e]
    rfl
  walk_at "py"
  refine ⟨_, _, rfl, rfl, ?_⟩
  walk_at "py"
  refine CF.go0 ((place_spec (n := 0) O7.r s)) (by walk_at "om") ?_
  walk_at "py"
  refine ⟨_, _, rfl, rfl, ?_⟩
  walk_at "py"
  refine CF.go0 ((place_spec (n := 0) O7.r t)) (by walk_at "om") ?_
  walk_at "py"
  refine ⟨by simp, _, _, rfl, ?_⟩
  walk_at "py"
  refine W.or ?_
  walk_at "py"
  refine Op2.gtT3 ?_
  refine ⟨_, rfl, fun hg => ?_, fun hg => ?_⟩
  · exact ⟨by rw [hg]; rfl, KF7, hko07⟩
  refine W.and1 ?_
  refine W.and ?_
  walk_at "py"
  refine Op2.eqD (place_ok _ _ _) (place_ok _ _ _) ?_
  rw [place_eqv, hg, Bool.false_or]
  refine ⟨_, rfl, fun h3 => ?_, fun h3 => ?_⟩
  · refine W.and1 ?_
    walk_at "py"
    refine ⟨⟨_, rfl, rfl⟩, ?_⟩
    walk_at "py"
    refine SlOp.tm1 ?_
    walk_at "py"
    refine SlOp.tm1 ?_
    walk_at "py"
    refine CF.go3 (first_spec (n := n) (kids s) (kids t) (ht s - 1) ih (fun a ha => by have := kids_ht ha; omega) (fun a ha => by have := kids_ht ha; omega) (fun a ha => by have := kids_ht ha; omega) hN O7) (Nat.le_refl _) fun st₉ hk hko9 => ?_
    exact ⟨by rw [show same3 rk s t = true from h3, Bool.true_and], hk, hko07.trans hko9⟩
  · exact ⟨by rw [show same3 rk s t = false from h3, Bool.false_and], KF7, hko07⟩
theorem AboveS.up {C : Ctx0} {wt rk : Tab} {ri kn wi n m : Nat} {s t : Tm} (x : AboveS C wt rk ri kn wi n s t) (h : n ≤ m) : AboveS C wt rk ri kn wi m s t := fun N st hN O => (x N st hN O).up h
theorem above_one {C : Ctx0} {wt rk : Tab} {ri kn wi n : Nat} (s t : Tm) (hs : ht s ≤ 7) (ht' : ht t ≤ 7)
    (isab : ∀ (N : Nat) (st : List PObj), N ≤ 1000 → Ord wt rk ri kn wi N st → CF C n 147 [selfPV ri kn wi, tm s, tm t] st (fun v st' => v = .bool (abv wt rk s t) ∧ KnOk wt rk st' kn (N + (ht s - 1)) ∧ KO [kn] st st')) : AboveS C wt rk ri kn wi (n + 1) s t := by
  intro N st hN O
  have hp := ht_pos s
  have hkey : keyOk 8 (.tup [tm s, tm t]) = true := by
    show (keyOk 7 (tm s) && (keyOk 7 (tm t) && true)) = true
    rw [tm_key s 7 hs, tm_key t 7 ht']; rfl
  refine CF.enter (names := ["self", "s", "t"]) (by k_is) (by k_is) rfl (len3 (fun a b c => by exact rfl)) (by decide) (by decide) (by decide) (by decide) (by decide) (by decide) (by decide) (by decide) ?_
  obtain ⟨kvs, hk1, hk2, hk3⟩ := O.k
  walk_at "py"
  refine ⟨by simp, ?_⟩
  walk_at "py"
  refine ⟨_, _, rfl, rfl, ?_⟩
  refine Op2.notInTd hk1 hkey ?_
  refine ⟨_, rfl, fun hb => ?_, fun hb => ?_⟩
  · walk_at "py"
    refine ⟨⟨_, rfl, rfl⟩, ?_⟩
    walk_at "py"
    refine (isab N st hN O).mono fun v st₁ hv => ?_
    obtain ⟨rfl, ⟨kvs1, f1, f2, f3⟩, hko1⟩ := hv
    walk_at "py"
    refine ⟨_, _, rfl, rfl, ?_⟩
    walk_at "py"
    refine ⟨by simp, ?_⟩
    refine SetOp.tdU f1 hkey (by walk_at "om") ?_
    have f1' : (st₁.set kn (.td (updT kvs1 (.tup [tm s, tm t]) (.bool (abv wt rk s t)))))[kn]? = some (.td (updT kvs1 (.tup [tm s, tm t]) (.bool (abv wt rk s t)))) := get_set f1
    have hko2 : KO [kn] st (st₁.set kn (.td (updT kvs1 (.tup [tm s, tm t]) (.bool (abv wt rk s t))))) := hko1.trans (KO.set _ _ _)
    walk_at "py"
    refine ⟨_, _, rfl, rfl, ?_⟩
    walk_at "py"
    refine ⟨by simp, ?_⟩
    refine ItemOp.td f1' hkey (p := .bool (abv wt rk s t)) (by rw [updT_get, if_pos rfl]) ?_
    refine ⟨rfl, ⟨_, f1', fun a b q h => ?_, ?_⟩, hko2⟩
    · rw [updT_get] at h
      split at h
      · rename_i e
        cases h
        simp only [PV.tup.injEq, List.cons.injEq, and_true] at e
        rw [tm_inj e.1, tm_inj e.2]
      · exact f2 a b q h
    · have := updT_length kvs1 (.tup [tm s, tm t]) (.bool (abv wt rk s t))
      omega
  · walk_at "py"
    refine ⟨_, _, rfl, rfl, ?_⟩
    walk_at "py"
    refine ⟨by simp, ?_⟩
    have hsome : (tget kvs (.tup [tm s, tm t])).isSome = true := by simpa using hb
    obtain ⟨q, hq⟩ := Option.isSome_iff_exists.mp hsome
    have hqv := hk2 s t q hq
    subst hqv
    refine ItemOp.td hk1 hkey hq ?_
    exact ⟨rfl, ⟨kvs, hk1, hk2, by walk_at "om"⟩, KO.refl _ _⟩
theorem above_spec {C : Ctx0} {wt rk : Tab} {ri kn wi : Nat} : ∀ (h : Nat) (s t : Tm), ht s ≤ h → ht s ≤ 7 → ht t ≤ 7 → AboveS C wt rk ri kn wi (3 * ht s + 9) s t := by
  intro h
  induction h with
  | zero => intro s t h; have := ht_pos s; omega
  | succ h ih =>
    intro s t hh hs ht'
    have hp := ht_pos s
    have e : 3 * ht s + 9 = (3 * ht s + 8) + 1 := rfl
    first | refine X.rho (e _) ?_ | refine X.rho (e _ _) ?_ | refine W.rho (e _ _) ?_ | refine W.rho (e _) ?_ | rw [e]
    refine above_one s t hs ht' fun N st hN O => ?_
    have e2 : 3 * ht s + 8 = (3 * ht s + 6) + 2 := rfl
    rw [e2]
    refine isab_spec s t (by walk_at "om") hs ht' (fun a ha b hb => ?_) hN O
    have ha' := kids_ht ha
    have hb' := kids_ht hb
    exact (ih a b (by walk_at "om") (by walk_at "om") (by walk_at "om")).up (by walk_at "om")
noncomputable def rodKvs (c : Nat) (k : Int) : List (Str × PV) := [(Str.ofString "cells", .loc c), (Str.ofString "spent", .int k)]
/-- the rod lies there, and not more than B cells of it are spent -/
noncomputable def RodAt (st : List PObj) (i B : Nat) : Prop := ∃ (c ep : Nat) (cells : List Int) (k : Nat), st[i]? = some (.sd (rodKvs c k) ep) ∧ st[c]? = some (.list (cells.map .int)) ∧ c ≠ i ∧ cells.length ≤ 100 ∧ k ≤ B
theorem RodAt.ko {st st' : List PObj} {i B : Nat} (h : RodAt st i B) (k : KO [] st st') : RodAt st' i B := by
  obtain ⟨c, ep, cells, m, h1, h2, r⟩ := h
  exact ⟨c, ep, cells, m, k.get h1, k.get h2, r⟩
theorem fmod_in {a b : Int} (h : 0 < b) : 0 ≤ a.fmod b ∧ a.fmod b < b := ⟨Int.fmod_nonneg_of_pos a h, Int.fmod_lt_of_pos a h⟩
theorem bits_small {x : Int} (h0 : 0 ≤ x) (h : x < 2 ^ 60) : Builtin.Int.intBits x ≤ 64 := by
  unfold Builtin.Int.intBits
  split
  · omega
  · rename_i hx
    have hx' : x ≠ 0 := by simpa using hx
    have hn : x.natAbs ≠ 0 := by walk_at "om"
    have : x.natAbs.log2 < 60 := (Nat.log2_lt hn).mpr (by walk_at "om")
    omega
theorem cut_spec {C : Ctx0} {n : Nat} {st : List PObj} {i B : Nat} {m : Int} (hm : 0 < m) (hm2 : m < 1000000) (hB : B < 10000) (R : RodAt st i B) :
    CF C (n + 1) 164 [.loc i, .int m] st (fun v st' => ∃ r, v = .int r ∧ 0 ≤ r ∧ r < m ∧ RodAt st' i (B + 1) ∧ KO [i] st st') := by
  obtain ⟨c, ep, cells, k, hr, hc, hne, hl, hk⟩ := R
  refine CF.enter (names := ["rod", "many"]) (by k_is) (by k_is) rfl (len2 (fun a b => by exact rfl)) (by decide) (by decide) (by decide) (by decide) (by decide) (by decide) (by decide) (by decide) ?_
  walk_at "py"
  refine ItemOp.sd hr rfl ?_
  walk_at "py"
  refine SetOp.sd hr (by simp [rodKvs]) fun ep' => ?_
  have eu : upd (rodKvs c k) (Str.ofString "spent") (PV.int ((k : Int) + 1)) = rodKvs c ((k + 1 : Nat) : Int) := rfl
  rw [eu]
  have hr' : (st.set i (.sd (rodKvs c ((k + 1 : Nat) : Int)) ep'))[i]? = some (.sd (rodKvs c ((k + 1 : Nat) : Int)) ep') := get_set hr
  have hc' : (st.set i (.sd (rodKvs c ((k + 1 : Nat) : Int)) ep'))[c]? = some (.list (cells.map .int)) := by rw [List.getElem?_set_ne (Ne.symm hne)]; exact hc
  have hko : KO [i] st (st.set i (.sd (rodKvs c ((k + 1 : Nat) : Int)) ep')) := KO.set _ _ _
  generalize st.set i (.sd (rodKvs c ((k + 1 : Nat) : Int)) ep') = st' at *
  have R' : RodAt st' i (B + 1) := ⟨c, ep', cells, k + 1, hr', hc', hne, hl, by walk_at "om"⟩
  walk_at "py"
  refine ItemOp.sd hr' rfl ?_
  walk_at "py"
  refine OpN.lenL hc' (by rw [List.length_map]; omega) ?_
  walk_at "py"
  refine ⟨_, rfl, fun hb => ?_, fun hb => ?_⟩
  · have hlt : k < cells.length := by
      rw [List.length_map] at hb
      have := of_decide_eq_true hb
      omega
    walk_at "py"
    refine ItemOp.sd hr' rfl ?_
    walk_at "py"
    refine ItemOp.list hc' (by walk_at "om") (p := .int cells[k]) (by rw [List.getElem?_map, List.getElem?_eq_getElem hlt]; rfl) ?_
    walk_at "py"
    refine Op2.modI (by walk_at "om") ?_
    obtain ⟨f1, f2⟩ := fmod_in (a := cells[k]) hm
    exact ⟨_, rfl, f1, f2, R', hko⟩
  · walk_at "py"
    refine Op2.mulI (IntMulOk.of_left (by decide)) ?_
    walk_at "py"
    refine Op2.mulI (IntMulOk.of_right (bits_small (by omega) (by omega))) ?_
    walk_at "py"
    refine Op2.mulI (IntMulOk.of_left (by decide)) ?_
    walk_at "py"
    refine Op2.modI (by decide) ?_
    walk_at "py"
    refine Op2.modI (by walk_at "om") ?_
    obtain ⟨f1, f2⟩ := fmod_in (a := _) hm
    exact ⟨_, rfl, f1, f2, R', hko⟩
/-- a pattern as the law grows them -/
noncomputable def plain : Tm → Bool
  | .L .u => false
  | .L .h => false
  | .L _ => true
  | .F t => plain t
  | .G s t => plain s && plain t
theorem RodAt.le {st : List PObj} {i B B' : Nat} (h : RodAt st i B) (hb : B ≤ B') : RodAt st i B' := by
  obtain ⟨c, ep, cells, m, h1, h2, h3, h4, h5⟩ := h
  exact ⟨c, ep, cells, m, h1, h2, h3, h4, Nat.le_trans h5 hb⟩
theorem leaf_at {k : Nat} (h : (k : Int) < 4) : ∃ l : Lf, [PV.str (Str.ofString "a"), PV.str (Str.ofString "b"), PV.str (Str.ofString "?x"), PV.str (Str.ofString "?y")][k]? = some (.str l.str) ∧ plain (.L l) = true := by
  match k, h with
  | 0, _ => exact ⟨.a, rfl, rfl⟩
  | 1, _ => exact ⟨.b, rfl, rfl⟩
  | 2, _ => exact ⟨.x, rfl, rfl⟩
  | 3, _ => exact ⟨.y, rfl, rfl⟩
  | k + 4, h => exact absurd h (by walk_at "om")
theorem grown_spec {C : Ctx0} : ∀ (f n : Nat) (st : List PObj) (i B : Nat), f + 1 ≤ n → B + 2 ^ (f + 1) < 10000 → RodAt st i B →
    CF C (n + 1) 171 [.loc i, .int f] st (fun v st' => ∃ t, v = tm t ∧ plain t = true ∧ ht t ≤ f + 1 ∧ RodAt st' i (B + 2 ^ (f + 1) - 1) ∧ KO [i] st st') := by
  intro f
  induction f with
  | zero =>
    intro n st i B hn hB R
    refine CF.enter (names := ["rod", "floors"]) (by k_is) (by k_is) rfl (len2 (fun a b => by exact rfl)) (by decide) (by decide) (by decide) (by decide) (by decide) (by decide) (by decide) (by decide) ?_
    walk_at "py"
    refine ⟨_, rfl, fun hb => ?_, fun hb => ?_⟩
    · exact absurd hb (by decide)
    walk_at "py"
    refine ((cut_spec (n := 0) (m := 4) (by decide) (by decide) (by walk_at "om") R).up (by walk_at "om")).mono fun v st₁ hv => ?_
    obtain ⟨r', rfl, h0, h4, R1, hko⟩ := hv
    obtain ⟨r, rfl⟩ : ∃ r : Nat, r' = r := ⟨r'.toNat, by walk_at "om"⟩
    walk_at "py"
    refine ⟨_, rfl, fun hb2 => ?_, fun hb2 => ?_⟩
    rotate_left
    · have := of_decide_eq_false hb2
      omega
    walk_at "py"
    refine ⟨by simp, ?_⟩
    walk_at "py"
    obtain ⟨l, hl, hp⟩ := leaf_at (k := r) (by have := of_decide_eq_true hb2; omega)
    refine ItemOp.list get_new (by have := of_decide_eq_true hb2; omega) hl ?_
    walk_at "py"
    exact ⟨by simp, .L l, rfl, hp, by simp [ht], (R1.ko (KO.app _ _ _)).le (by walk_at "om"), hko.trans (KO.app _ _ _)⟩
  | succ f ih =>
    intro n st i B hn hB R
    have hpow : 2 ^ (f + 1 + 1) = 2 * 2 ^ (f + 1) := by rw [Nat.pow_succ]; omega
    have hp1 := Nat.one_le_two_pow (n := f + 1)
    have hp2 : 2 ≤ 2 ^ (f + 1) := by rw [Nat.pow_succ]; have := Nat.one_le_two_pow (n := f); omega
    refine CF.enter (names := ["rod", "floors"]) (by k_is) (by k_is) rfl (len2 (fun a b => by exact rfl)) (by decide) (by decide) (by decide) (by decide) (by decide) (by decide) (by decide) (by decide) ?_
    walk_at "py"
    refine ⟨_, rfl, fun hb => ?_, fun hb => ?_⟩
    rotate_left
    · exact absurd (of_decide_eq_false hb) (by walk_at "om")
    walk_at "py"
    refine ((cut_spec (n := 0) (m := 7) (by decide) (by decide) (by walk_at "om") R).up (by walk_at "om")).mono fun v st₁ hv => ?_
    obtain ⟨r', rfl, h0, h7, R1, hko⟩ := hv
    obtain ⟨r, rfl⟩ : ∃ r : Nat, r' = r := ⟨r'.toNat, by walk_at "om"⟩
    walk_at "py"
    refine ⟨_, rfl, fun hb2 => ?_, fun hb2 => ?_⟩
    · walk_at "py"
      refine ⟨by simp, ?_⟩
      walk_at "py"
      obtain ⟨l, hl, hp⟩ := leaf_at (k := r) (by have := of_decide_eq_true hb2; omega)
      refine ItemOp.list get_new (by have := of_decide_eq_true hb2; omega) hl ?_
      walk_at "py"
      exact ⟨by simp, .L l, rfl, hp, by simp [ht], (R1.ko (KO.app _ _ _)).le (by walk_at "om"), hko.trans (KO.app _ _ _)⟩
    walk_at "py"
    refine ⟨_, rfl, fun hb3 => ?_, fun hb3 => ?_⟩
    · walk_at "py"
      have ef : ((f + 1 : Nat) : Int) - 1 = (f : Nat) := by walk_at "om"
      rw [ef]
      refine ((ih (n - 1) st₁ i (B + 1) (by walk_at "om") (by walk_at "om") R1).up (by walk_at "om")).mono fun v st₂ hv => ?_
      obtain ⟨t, rfl, hp, hh, R2, hko2⟩ := hv
      walk_at "py"
      exact ⟨by simp, .F t, rfl, hp, by simp [ht]; omega, R2.le (by walk_at "om"), hko.trans hko2⟩
    · walk_at "py"
      have ef : ((f + 1 : Nat) : Int) - 1 = (f : Nat) := by walk_at "om"
      rw [ef]
      refine ((ih (n - 1) st₁ i (B + 1) (by walk_at "om") (by walk_at "om") R1).up (by walk_at "om")).mono fun v st₂ hv => ?_
      obtain ⟨t, rfl, hp, hh, R2, hko2⟩ := hv
      walk_at "py"
      rw [ef]
      refine ((ih (n - 1) st₂ i _ (by walk_at "om") (by walk_at "om") R2).up (by walk_at "om")).mono fun v st₃ hv => ?_
      obtain ⟨t', rfl, hp', hh', R3, hko3⟩ := hv
      walk_at "py"
      exact ⟨by simp, .G t t', rfl, by simp [plain, hp, hp'], by simp [ht]; omega, R3.le (by walk_at "om"), (hko.trans hko2).trans hko3⟩
noncomputable def pvRow (x : Str × Int) : PV := .tup [.str x.1, .int x.2]
theorem told_spec {C : Ctx0} {n : Nat} {st : List PObj} {i j B : Nat} {w : Int} (nm : List Str) (hw : 0 < w) (hw2 : w < 1000) (hn : 1 ≤ n) (hnm : nm.Nodup) (hlen : nm.length ≤ 10) (hB : B + 10 < 10000) (R : RodAt st i B) (hj : st[j]? = some (.list (nm.map .str))) :
    CF C (n + 1) 176 [.loc i, .loc j, .int w] st (fun v st' => ∃ k tab, v = .loc k ∧ TabAt' st' k tab ∧ (tab.map (·.1)).Nodup ∧ (∀ x ∈ tab, x.1 ∈ nm ∧ 0 < x.2 ∧ x.2 < w) ∧ RodAt st' i (B + nm.length) ∧ KO [i] st st' ∧ st.length ≤ k) := by
  have hji : j ∉ [i] := by
    obtain ⟨c, ep, cells, m, h1, _⟩ := R
    simp only [List.mem_singleton]
    rintro rfl
    rw [hj] at h1; cases h1
  refine CF.enter (names := ["rod", "names", "wide"]) (by k_is) (by k_is) rfl (len3 (fun a b c => by exact rfl)) (by decide) (by decide) (by decide) (by decide) (by decide) (by decide) (by decide) (by decide) ?_
  refine X.cons (X1.assignComp rfl (by decide) (by decide) (by decide) (fun e x => rfl) rfl (by decide) (by decide) (WI.list ?_))
  walk_at "py"
  refine ⟨_, _, rfl, hj, hj, by rw [List.length_map]; omega, ?_⟩
  refine CT.inv (all := nm.map .str) (fun idx ρ' acc st' => (ρ' = [(Str.ofString "rod", PV.loc i), (Str.ofString "wide", PV.int w)] ∨ ∃ a, ρ' = upd [(Str.ofString "rod", PV.loc i), (Str.ofString "wide", PV.int w)] (Str.ofString "name") a) ∧
    (∃ rows : List (Str × Int), acc = rows.map pvRow ∧ rows.map (·.1) = nm.take idx ∧ ∀ x ∈ rows, 0 ≤ x.2 ∧ x.2 < w) ∧ RodAt st' i (B + idx) ∧ KO [i] st st') ?_ ?_ (nm.map .str) 0 _ [] _ rfl (Nat.zero_le _) ⟨.inl rfl, ⟨[], rfl, rfl, by simp⟩, R, KO.refl _ _⟩ hj
  · rintro idx p ρ' acc st₁ hp ⟨hρ, ⟨rows, rfl, hr1, hr2⟩, R1, hko⟩ hG
    rw [List.getElem?_map] at hp
    cases hk : nm[idx]? with
    | none => rw [hk] at hp; cases hp
    | some k =>
      rw [hk] at hp
      cases hp
      have hidx := (List.getElem?_eq_some_iff.mp hk).1
      refine AsgL.name (by decide) ?_
      have e : ∀ a, upd ρ' (Str.ofString "name") a = upd [(Str.ofString "rod", PV.loc i), (Str.ofString "wide", PV.int w)] (Str.ofString "name") a := by
        intro a; rcases hρ with rfl | ⟨_, rfl⟩ <;> rfl
      refine ⟨fun _ => ?_, fun h => by cases h⟩
      refine W.rho (e _) ?_
      walk_at "py"
      refine ((cut_spec (n := 0) (m := w) hw (by walk_at "om") (by walk_at "om") R1).up (by walk_at "om")).mono fun v st₂ hv => ?_
      obtain ⟨r, rfl, h0, h1, R2, hko2⟩ := hv
      walk_at "py"
      refine ⟨by simp, hko2.2 _ _ hji hG, .inr ⟨_, by first | exact e _ | exact hρ' _ | rfl⟩, ⟨rows ++ [(k, r)], by rw [List.map_append]; rfl, ?_, fun x hx => ?_⟩, R2, hko.trans hko2⟩
      · rw [List.map_append, hr1, List.take_add_one, hk]; rfl
      · rcases List.mem_append.mp hx with hx | hx
        · exact hr2 x hx
        · rw [List.mem_singleton.mp hx]; exact ⟨h0, h1⟩
  rintro ρ' acc st₁ ⟨_, ⟨rows, rfl, hr1, hr2⟩, R1, hko⟩
  rw [List.length_map] at hr1 R1
  rw [List.take_length] at hr1
  have hrl : rows.length = nm.length := by rw [← hr1, List.length_map]
  walk_at "py"
  refine WI.list ?_
  walk_at "py"
  refine ⟨_, _, rfl, get_new, get_new, by rw [List.length_map]; omega, ?_⟩
  refine CT.inv (all := rows.map pvRow) (fun idx ρ' acc st' => (ρ' = [] ∨ ∃ a, ρ' = upd [] (Str.ofString "row") a) ∧ acc = ((rows.take idx).filter fun x => decide (x.2 > 0)).map pvRow ∧ KO [] (st₁ ++ [PObj.list (rows.map pvRow)]) st') ?_ ?_ (rows.map pvRow) 0 _ [] _ rfl (Nat.zero_le _) ⟨.inl rfl, by simp, KO.refl _ _⟩ get_new
  · rintro idx p ρ' acc st₂ hp ⟨hρ, rfl, hko2⟩ hG
    rw [List.getElem?_map] at hp
    cases hk : rows[idx]? with
    | none => rw [hk] at hp; cases hp
    | some x =>
      rw [hk] at hp
      cases hp
      refine AsgL.name (by decide) ?_
      have e : ∀ a, upd ρ' (Str.ofString "row") a = upd [] (Str.ofString "row") a := by
        intro a; rcases hρ with rfl | ⟨_, rfl⟩ <;> rfl
      rw [e]
      have hsn : ((rows.take (idx + 1)).filter fun x => decide (x.2 > 0)).map pvRow = ((rows.take idx).filter fun x => decide (x.2 > 0)).map pvRow ++ (if decide (x.2 > 0) = true then [pvRow x] else []) := by
        rw [List.take_add_one, hk, List.filter_append, List.map_append]
        congr 1
        simp only [Option.toList, List.filter_cons, List.filter_nil]
        split <;> rfl
      show T C n _ _ _ _ _
      walk_at "py"
      refine ItemOp.tup (k := 1) (by decide) (p := .int x.2) rfl ?_
      walk_at "py"
      refine ⟨_, rfl, fun hb => ?_, fun hb => ?_⟩
      · walk_at "py"
        exact ⟨hG, .inr ⟨_, by first | exact e _ | exact hρ' _ | rfl⟩, by rw [hsn, if_pos hb], hko2⟩
      · exact ⟨hG, .inr ⟨_, by first | exact e _ | exact hρ' _ | rfl⟩, by rw [hsn, if_neg (by rw [hb]; simp), List.append_nil], hko2⟩
  rintro ρ'' acc st₂ ⟨_, rfl, hko2⟩
  rw [List.length_map, List.take_length]
  walk_at "py"
  have em : (rows.filter fun x => decide (x.2 > 0)).map pvRow = (tabPV (rows.filter fun x => decide (x.2 > 0))).map fun x => .tup [.str x.1, x.2] := by
    unfold tabPV; rw [List.map_map]; rfl
  rw [em]
  have nd : ((rows.filter fun x => decide (x.2 > 0)).map (·.1)).Nodup := by
    have : (rows.map (·.1)).Nodup := by rw [hr1]; exact hnm
    exact (List.Sublist.map _ List.filter_sublist).nodup this
  refine OpN.dictP get_new ?_ ?_ fun ep => ?_
  · unfold tabPV
    rw [List.length_map]
    have := List.length_filter_le (fun x : Str × Int => decide (x.2 > 0)) rows
    omega
  · unfold tabPV; rw [List.map_map]; exact nd
  have hko3 : KO [] st₁ (st₂ ++ [PObj.list ((tabPV (rows.filter fun x => decide (x.2 > 0))).map fun x => .tup [.str x.1, x.2])] ++ [PObj.sd (tabPV (rows.filter fun x => decide (x.2 > 0))) ep]) := ((KO.app [] st₁ _).trans hko2).trans ((KO.app _ _ _).trans (KO.app _ _ _))
  refine ⟨_, rows.filter fun x => decide (x.2 > 0), rfl, ⟨ep, get_new⟩, nd, fun x hx => ?_, R1.ko hko3, hko.trans hko3.any, ?_⟩
  · obtain ⟨h1, h2⟩ := List.mem_filter.mp hx
    exact ⟨by rw [← hr1]; exact List.mem_map.mpr ⟨x, h1, rfl⟩, of_decide_eq_true h2, (hr2 x h1).2⟩
  · have a1 := hko.1
    have a2 := hko2.1
    simp only [List.length_append, List.length_singleton] at a2 ⊢
    omega
theorem SlOp.toIL {C : Ctx0} {n : Nat} {st : List PObj} {Q : Post} {ns : List Int} {b : Nat} (hz : ns.length ≤ 1000000) (q : Q (.loc st.length) (st ++ [.list ((ns.map .int).take b)])) : SlOp C n (.ilist ns) .none (.int (b : Int)) st Q := by
  intro A g ads s vo vl vu sl hA base z x y w hs
  cases y; cases w
  cases x with
  | @ilist a o vs k _ e c d r =>
    have hl : s.heap.IsList a vs.toArray := ⟨_, z.gh _ _ e, c, _, d⟩
    have e1 := r.length
    refine ⟨⟨"list", _, hl.typeIs, slot_list_getitem.lookup⟩, wpAny_getItem_list_slice hl hs .none (.int _ _) .none (by simp) ?_ (by rw [List.size_toArray, sizeLine_is]; omega)⟩
    rw [slicePick_upto']
    exact list_new base z ((VRs.ofInts r).take b) q
theorem rod_spec {C : Ctx0} {n : Nat} {st : List PObj} {ns : List Int} (hl : ns.length ≤ 100) :
    CF C (n + 1) 157 [.ilist ns] st (fun v st' => ∃ i, v = .loc i ∧ RodAt st' i 0 ∧ KO [] st st' ∧ st.length ≤ i) := by
  refine CF.enter (names := ["script"]) (by k_is) (by k_is) rfl (len1 (fun a => by exact rfl)) (by decide) (by decide) (by decide) (by decide) (by decide) (by decide) (by decide) (by decide) ?_
  walk_at "py"
  refine W.dict2 (by decide) ?_
  walk_at "py"
  refine WI.list ?_
  walk_at "py"
  refine SlOp.toIL (b := 50) (by walk_at "om") ?_
  refine ⟨_, _, rfl, get_new, get_new, by rw [List.length_take, List.length_map]; omega, ?_⟩
  rw [← List.map_take]
  refine CT.inv (all := (ns.take 50).map .int) (fun idx ρ' acc st' => (ρ' = [] ∨ ∃ a, ρ' = upd [] (Str.ofString "cell") a) ∧ acc = ((ns.take 50).take idx).map (fun x => PV.int (x.fmod 1000003)) ∧ KO [] (st ++ [PObj.list ((ns.take 50).map .int)]) st') ?_ ?_ ((ns.take 50).map .int) 0 _ [] _ rfl (Nat.zero_le _) ⟨.inl rfl, by simp, KO.refl _ _⟩ (by simpa using get_new)
  · rintro idx p ρ' acc st₂ hp ⟨hρ, rfl, hko2⟩ hG
    rw [List.getElem?_map] at hp
    cases hk : (ns.take 50)[idx]? with
    | none => rw [hk] at hp; cases hp
    | some x =>
      rw [hk] at hp
      cases hp
      refine AsgL.name (by decide) ?_
      have e : ∀ a, upd ρ' (Str.ofString "cell") a = upd [] (Str.ofString "cell") a := by
        intro a; rcases hρ with rfl | ⟨_, rfl⟩ <;> rfl
      refine ⟨fun _ => ?_, fun h => by cases h⟩
      refine W.rho (e _) ?_
      walk_at "py"
      refine OpN.intI ?_
      walk_at "py"
      refine Op2.modI (by decide) ?_
      exact ⟨hG, .inr ⟨_, by first | exact e _ | exact hρ' _ | rfl⟩, by rw [List.take_add_one (l := ns.take 50), hk, List.map_append]; rfl, hko2⟩
  rintro ρ'' acc st₂ ⟨_, rfl, hko2⟩
  rw [List.length_map, List.take_length]
  walk_at "py"
  intro ep
  have hko3 : KO [] st (st₂ ++ [PObj.list ((ns.take 50).map fun x => PV.int (x.fmod 1000003))] ++ [PObj.sd [(Str.ofString "cells", .loc st₂.length), (Str.ofString "spent", .int 0)] ep]) := ((KO.app [] st _).trans hko2).trans ((KO.app _ _ _).trans (KO.app _ _ _))
  have hle := ((KO.app [] st _).trans hko2).1
  refine ⟨_, rfl, ⟨st₂.length, ep, (ns.take 50).map (fun x => x.fmod 1000003), 0, get_new, ?_, by simp, by rw [List.length_map, List.length_take]; omega, Nat.le_refl _⟩, hko3, by simp; omega⟩
  refine get_app ?_
  rw [get_new, List.map_map]; rfl
theorem ways_spec {C : Ctx0} {n : Nat} {st : List PObj} : CF C (n + 1) 212 [] st (fun v st' => v = .loc st.length ∧ st' = st ++ [.list [.tup [.str Lf.u.str, .str Lf.u.str], .tup [.str Lf.h.str, .str Lf.u.str], .tup [.str Lf.u.str, .str Lf.h.str]]]) := by
  refine CF.enter (names := []) (by k_is) (by k_is) rfl (len0 (by exact rfl)) (by decide) (by decide) (by decide) (by decide) (by decide) (by decide) (by decide) (by decide) ?_
  walk_at "py"
  refine ⟨by simp, ?_⟩
  walk_at "py"
  refine ⟨by simp, ?_⟩
  walk_at "py"
  refine ⟨by simp, ?_⟩
  walk_at "py"
  refine ⟨by simp, ?_⟩
  exact ⟨rfl, rfl⟩
noncomputable def mt (p q : Lf) : Tm → Tm
  | .L .x => .L p
  | .L .y => .L q
  | .L l => .L l
  | .F t => .F (mt p q t)
  | .G s t => .G (mt p q s) (mt p q t)
theorem in_var (t : Tm) : ((toPys [.str (Str.ofString "?x"), .str (Str.ofString "?y")]).any fun z => PyData.eqv z (toPy (.str (opOf t)))) = isVar t := by
  cases t with
  | L l => cases l <;> decide +kernel
  | F _ => show ((toPys [.str (Str.ofString "?x"), .str (Str.ofString "?y")]).any fun z => PyData.eqv z (toPy (.str (Str.ofString "f")))) = false; decide +kernel
  | G _ _ => show ((toPys [.str (Str.ofString "?x"), .str (Str.ofString "?y")]).any fun z => PyData.eqv z (toPy (.str (Str.ofString "g")))) = false; decide +kernel
theorem mt_kids (p q : Lf) {t : Tm} (h : isVar t = false) : tm (mt p q t) = .tup (.str (opOf t) :: (kids t).map fun k => tm (mt p q k)) := by
  cases t with
  | L l => cases l <;> first | (exfalso; revert h; decide) | rfl
  | F _ => rfl
  | G _ _ => rfl
theorem meant_spec {C : Ctx0} (p q : Lf) : ∀ (n : Nat) (t : Tm) (st : List PObj), ht t ≤ n → ht t ≤ 7 → CF C n 186 [tm t, .str p.str, .str q.str] st (fun v st' => v = tm (mt p q t) ∧ KO [] st st') := by
  intro n
  induction n with
  | zero => intro t st h; have := ht_pos t; omega
  | succ n ih =>
    intro t st hn h7
    refine CF.enter (names := ["t", "one", "other"]) (by k_is) (by k_is) rfl (len3 (fun a b c => by exact rfl)) (by decide) (by decide) (by decide) (by decide) (by decide) (by decide) (by decide) (by decide) ?_
    walk_at "py"
    refine ItemOp.tm0 ?_
    walk_at "py"
    refine ⟨by simp, ?_⟩
    refine Op2.inT (op_ok t) (fun z hz => by
      simp only [List.mem_cons, List.not_mem_nil, or_false] at hz
      rcases hz with rfl | rfl <;> (show PyData.strOk _ = true; decide +kernel)) ?_
    rw [in_var]
    refine ⟨_, rfl, fun hb => ?_, fun hb => ?_⟩
    · walk_at "py"
      refine ItemOp.tm0 ?_
      walk_at "py"
      refine ⟨_, rfl, fun hx => ?_, fun hx => ?_⟩
      · walk_at "py"
        refine ⟨by simp, ?_, KO.refl _ _⟩
        cases t with
        | L l => cases l <;> first | rfl | (exfalso; revert hx; decide +kernel)
        | F _ => cases hb
        | G _ _ => cases hb
      · walk_at "py"
        refine ⟨by simp, ?_, KO.refl _ _⟩
        cases t with
        | L l => cases l <;> first | rfl | (exfalso; revert hx; decide +kernel) | (exfalso; revert hb; decide)
        | F _ => cases hb
        | G _ _ => cases hb
    · walk_at "py"
      refine ItemOp.tm0 ?_
      walk_at "py"
      refine ⟨by simp, ?_⟩
      walk_at "py"
      refine WI.tup ?_
      walk_at "py"
      refine SlOp.tm1 ?_
      refine ⟨_, rfl, trivial, by rw [List.length_map]; have := kids_len t; omega, ?_⟩
      refine CT.inv (all := (kids t).map tm) (fun idx ρ' acc st' => (ρ' = [(Str.ofString "one", PV.str p.str), (Str.ofString "other", PV.str q.str)] ∨ ∃ a, ρ' = upd [(Str.ofString "one", PV.str p.str), (Str.ofString "other", PV.str q.str)] (Str.ofString "kid") a) ∧ acc = ((kids t).take idx).map (fun k => tm (mt p q k)) ∧ KO [] st st') ?_ ?_ ((kids t).map tm) 0 _ [] _ rfl (Nat.zero_le _) ⟨.inl rfl, by simp, KO.refl _ _⟩ trivial
      · rintro idx pv ρ' acc st₂ hp ⟨hρ, rfl, hko2⟩ hG
        rw [List.getElem?_map] at hp
        cases hk : (kids t)[idx]? with
        | none => rw [hk] at hp; cases hp
        | some k =>
          rw [hk] at hp
          cases hp
          have hkh := kids_ht (List.mem_of_getElem? hk)
          refine AsgL.name (by decide) ?_
          have e : ∀ a, upd ρ' (Str.ofString "kid") a = upd [(Str.ofString "one", PV.str p.str), (Str.ofString "other", PV.str q.str)] (Str.ofString "kid") a := by
            intro a; rcases hρ with rfl | ⟨_, rfl⟩ <;> rfl
          refine ⟨fun _ => ?_, fun h => by cases h⟩
          refine W.rho (e _) ?_
          walk_at "py"
          refine CF.go (ih k st₂ (by walk_at "om") (by walk_at "om")) (Nat.le_refl _) fun st₃ hko3 => ?_
          exact ⟨trivial, .inr ⟨_, by first | exact e _ | exact hρ' _ | rfl⟩, by rw [List.take_add_one, hk, List.map_append]; rfl, hko2.trans hko3⟩
      rintro ρ'' acc st₂ ⟨_, rfl, hko2⟩
      rw [List.length_map, List.take_length]
      walk_at "py"
      refine OpN.tupleL get_new (by rw [List.length_map]; have := kids_len t; omega) ?_
      refine Op2.addT (by rw [List.length_map]; have := kids_len t; simp; omega) ?_
      exact ⟨(mt_kids p q hb).symm, hko2.trans (KO.app _ _ _)⟩
noncomputable def pathPV (p : List Nat) : PV := .tup (p.map fun (i : Nat) => .int i)
noncomputable abbrev spotsL (t : Tm) : List (List Nat) := (partsL t).map (·.1)
theorem spots_spec {C : Ctx0} : ∀ (n : Nat) (t : Tm) (st : List PObj), ht t ≤ n → ht t < 16 → CF C n 191 [tm t] st (fun v st' => ∃ k, v = .loc k ∧ st'[k]? = some (.list ((spotsL t).map pathPV)) ∧ KO [] st st') := by
  intro n
  induction n with
  | zero => intro t st h; have := ht_pos t; omega
  | succ n ih =>
    intro t st hn h16
    refine CF.enter (names := ["t"]) (by k_is) (by k_is) rfl (len1 (fun a => by exact rfl)) (by decide) (by decide) (by decide) (by decide) (by decide) (by decide) (by decide) (by decide) ?_
    walk_at "py"
    refine ⟨by simp, ?_⟩
    walk_at "py"
    refine ⟨by simp, ?_⟩
    refine X.cons (X1.for_inv (fun e x => rfl) (WI.range2 (by decide) (by k_is) (by first | boot_by_name | rfl | kernel_rfl) (by decide) (by decide) (fun e => rfl) (fun e => rfl) (fun e => rfl) ?_))
    walk_at "py"
    refine OpN.lenM ?_
    walk_at "py"
    refine ⟨1, (kids t).length, by rw [Int.add_comm], by have := kids_len t; omega, by decide, by decide, (fun i ρ' st' => (ρ' = upd ([Str.ofString "t"].zip [tm t]) (Str.ofString "rows") (PV.loc st.length) ∨ ∃ a, ρ' = upd (upd ([Str.ofString "t"].zip [tm t]) (Str.ofString "rows") (PV.loc st.length)) (Str.ofString "k") a) ∧ KO [] st st' ∧ st'[st.length]? = some (.list ((([] : List Nat) :: (kp 0 ((kids t).take i)).map (·.1)).map pathPV))), trivial, ⟨.inl rfl, KO.app _ _ _, by simp [pathPV, kp]⟩, ?_, ?_⟩
    · rintro i p ρ' st₁ hp ⟨hρ, hko, hf⟩ _
      rw [List.getElem?_map] at hp
      have hlt : i < (kids t).length := by
        cases q : (List.range (kids t).length)[i]? with
        | none => rw [q] at hp; cases hp
        | some j => simpa using (List.getElem?_eq_some_iff.mp q).1
      rw [List.getElem?_range hlt] at hp
      obtain rfl : p = .int ((i + 1 : Nat) : Int) := by
        have := Option.some.inj hp
        rw [← this]
        show PV.int (1 + (i : Int)) = _
        congr 1; omega
      obtain ⟨kid, hk⟩ : ∃ kid, (kids t)[i]? = some kid := ⟨_, List.getElem?_eq_getElem hlt⟩
      have hlk : ht kid < ht t := kids_ht (List.mem_of_getElem? hk)
      refine Asg.name (by decide) ?_
      have hρ' : ∀ a, upd ρ' (Str.ofString "k") a = upd (upd ([Str.ofString "t"].zip [tm t]) (Str.ofString "rows") (PV.loc st.length)) (Str.ofString "k") a := by
        intro a; rcases hρ with rfl | ⟨a, rfl⟩ <;> rfl
      first | refine X.rho (hρ' _) ?_ | refine X.rho (hρ' _ _) ?_ | refine W.rho (hρ' _ _) ?_ | refine W.rho (hρ' _) ?_ | rw [hρ']
      walk_at "py"
      refine ⟨by rw [if_neg (by decide)]; exact ⟨rfl, by simp [isList, hf]⟩, ?_⟩
      walk_at "py"
      refine WI.list ?_
      walk_at "py"
      refine ItemOp.tmK hk ?_
      walk_at "py"
      refine CF.goL (ih kid st₁ (by walk_at "om") (by walk_at "om")) (Nat.le_refl _) fun kk st₂ hl hko2 => ?_
      have hll := partsL_len kid
      have hp2 := Nat.pow_le_pow_right (n := 2) (by walk_at "om") (show ht kid ≤ 15 by walk_at "om")
      have h5 : 2 ^ 15 = 32768 := by decide
      refine ⟨kk, _, rfl, hl, hl, ?_, ?_⟩
      · rw [List.length_map, List.length_map]; omega
      have hf2 := hko2.get hf
      refine CT.inv (all := (spotsL kid).map pathPV) (fun idx ρ' acc st' => (ρ' = [(Str.ofString "k", PV.int ((i + 1 : Nat) : Int))] ∨ ∃ a, ρ' = upd [(Str.ofString "k", PV.int ((i + 1 : Nat) : Int))] (Str.ofString "path") a) ∧ acc = ((spotsL kid).take idx).map (fun p => pathPV (i :: p)) ∧ KO [] st₂ st') ?_ ?_ ((spotsL kid).map pathPV) 0 _ [] _ rfl (Nat.zero_le _) ⟨.inl rfl, by simp, KO.refl _ _⟩ hl
      · rintro idx pv ρ'' acc st₃ hp ⟨hρ2, rfl, hko3⟩ hG
        rw [List.getElem?_map] at hp
        cases hx : (spotsL kid)[idx]? with
        | none => rw [hx] at hp; cases hp
        | some pth =>
          rw [hx] at hp
          cases hp
          have hplen : pth.length < ht kid := by
            obtain ⟨x, hx1, hx2⟩ := List.mem_map.mp (List.mem_of_getElem? hx)
            rw [← hx2]; exact path_len kid x hx1
          refine AsgL.name (by decide) ?_
          have e : ∀ a, upd ρ'' (Str.ofString "path") a = upd [(Str.ofString "k", PV.int ((i + 1 : Nat) : Int))] (Str.ofString "path") a := by
            intro a; rcases hρ2 with rfl | ⟨_, rfl⟩ <;> rfl
          refine ⟨fun _ => ?_, fun h => by cases h⟩
          refine W.rho (e _) ?_
          walk_at "py"
          refine ⟨by simp, ?_⟩
          walk_at "py"
          refine Op2.addT ?_ ?_
          · simp only [List.length_cons, List.length_nil, List.length_map]
            omega
          have ei2 : (((i + 1 : Nat) : Int) - 1) = (i : Nat) := by walk_at "om"
          rw [ei2]
          exact ⟨hG, .inr ⟨_, by first | exact e _ | exact hρ' _ | rfl⟩, by rw [List.take_add_one, hx, List.map_append]; rfl, hko3⟩
      rintro ρ3 acc st₄ ⟨_, rfl, hko4⟩
      rw [List.length_map, List.take_length]
      walk_at "py"
      refine OpN.extend (get_app (hko4.get hf2)) (.inr ⟨_, rfl, get_new⟩) ?_ ?_
      · rw [List.length_map, List.length_map, List.length_map, List.length_cons, List.length_map]
        have h3 := kp_len (kids t) i 0 (fun k hk => kids_ht hk) (by walk_at "om")
        have h4 := kids_len t
        omega
      walk_at "py"
      have k0 : st.length ≤ st₄.length := (hko.trans (hko2.trans hko4)).1
      refine ⟨trivial, .inr ⟨_, by first | exact e _ | exact hρ' _ | rfl⟩, ?_, ?_⟩
      · exact ((hko.trans (hko2.trans hko4)).trans (KO.app _ _ _)).setNew (Nat.le_refl _)
      · rw [get_set (get_app (hko4.get hf2))]
        congr 2
        rw [kp_snoc _ _ _ _ hk, List.map_append, ← List.cons_append, List.map_append, List.map_map, List.map_map]
        congr 1
        rw [List.map_map]
        refine List.map_congr_left fun x _ => ?_
        show pathPV (i :: x.1) = pathPV ((0 + i) :: x.1)
        rw [Nat.zero_add]
    · rintro ρ' st₁ ⟨hρ, hko, hf⟩
      rw [List.length_map, List.length_range, List.take_length] at hf
      have hf' : st₁[st.length]? = some (.list ((spotsL t).map pathPV)) := by
        rw [hf]; unfold spotsL; rw [partsL_eq t]; rfl
      rcases hρ with rfl | ⟨a, rfl⟩
      · walk_at "py"
        exact ⟨_, rfl, hf', hko⟩
      · walk_at "py"
        exact ⟨_, rfl, hf', hko⟩
/-- what stands there -/
noncomputable def stand : Tm → List Nat → Option Tm
  | t, [] => some t
  | t, i :: p => match (kids t)[i]? with
    | some k => stand k p
    | none => none
theorem stand_spec {C : Ctx0} {n : Nat} (t r : Tm) (p : List Nat) (h : stand t p = some r) (st : List PObj) : CF C (n + 1) 205 [tm t, pathPV p] st (fun v st' => v = tm r ∧ st' = st) := by
  refine CF.enter (names := ["t", "path"]) (by k_is) (by k_is) rfl (len2 (fun a b => by exact rfl)) (by decide) (by decide) (by decide) (by decide) (by decide) (by decide) (by decide) (by decide) ?_
  refine X.cons (X1.for_inv (fun e x => rfl) (WI.tup ?_))
  walk_at "py"
  refine ⟨_, rfl, (fun i ρ' st' => (∃ t', stand t' (p.drop i) = some r ∧ (ρ' = [Str.ofString "t", Str.ofString "path"].zip [tm t', pathPV p] ∨ ∃ a, ρ' = upd ([Str.ofString "t", Str.ofString "path"].zip [tm t', pathPV p]) (Str.ofString "step") a)) ∧ st' = st), trivial, ⟨⟨t, h, .inl rfl⟩, rfl⟩, ?_, ?_⟩
  · rintro i pv ρ' st₁ hp ⟨⟨t', hst, hρ⟩, rfl⟩ _
    rw [List.getElem?_map] at hp
    cases hx : p[i]? with
    | none => rw [hx] at hp; cases hp
    | some j =>
      rw [hx] at hp
      obtain rfl : pv = .int (j : Int) := (Option.some.inj hp).symm
      obtain ⟨hlt, hj⟩ := List.getElem?_eq_some_iff.mp hx
      rw [List.drop_eq_getElem_cons hlt, hj] at hst
      unfold stand at hst
      cases hk : (kids t')[j]? with
      | none => rw [hk] at hst; cases hst
      | some k =>
        rw [hk] at hst
        refine Asg.name (by decide) ?_
        have hρ' : ∀ a, upd ρ' (Str.ofString "step") a = upd ([Str.ofString "t", Str.ofString "path"].zip [tm t', pathPV p]) (Str.ofString "step") a := by
          intro a; rcases hρ with rfl | ⟨a, rfl⟩ <;> rfl
        first | refine X.rho (hρ' _) ?_ | refine X.rho (hρ' _ _) ?_ | refine W.rho (hρ' _ _) ?_ | refine W.rho (hρ' _) ?_ | rw [hρ']
        walk_at "py"
        have ei : ((j : Nat) : Int) + 1 = ((j + 1 : Nat) : Int) := by walk_at "om"
        rw [ei]
        refine ItemOp.tmK hk ?_
        walk_at "py"
        exact ⟨trivial, ⟨k, hst, .inr ⟨_, by first | exact e _ | exact hρ' _ | rfl⟩⟩, rfl⟩
  · rintro ρ' st₁ ⟨⟨t', hst, hρ⟩, rfl⟩
    rw [List.length_map, List.drop_length] at hst
    have : t' = r := by unfold stand at hst; cases hst; rfl
    subst this
    rcases hρ with rfl | ⟨a, rfl⟩
    · walk_at "py"
      exact ⟨rfl, rfl⟩
    · walk_at "py"
      exact ⟨rfl, rfl⟩
noncomputable def lay : Tm → List Nat → Tm → Tm
  | _, [], f => f
  | .F t, 0 :: p, f => .F (lay t p f)
  | .G s t, 0 :: p, f => .G (lay s p f) t
  | .G s t, 1 :: p, f => .G s (lay t p f)
  | t, _ :: _, _ => t
theorem lay_step {t k : Tm} {i : Nat} (h : (kids t)[i]? = some k) (p : List Nat) (f : Tm) :
    PV.tup (((PV.str (opOf t) :: (kids t).map tm).take (i + 1) ++ [tm (lay k p f)]) ++ (PV.str (opOf t) :: (kids t).map tm).drop (i + 2)) = tm (lay t (i :: p) f) := by
  cases t with
  | L l => simp [kids] at h
  | F a =>
    match i, h with
    | 0, h => simp [kids] at h; subst h; rfl
    | i + 1, h => simp [kids] at h
  | G a b =>
    match i, h with
    | 0, h => simp [kids] at h; subst h; rfl
    | 1, h => simp [kids] at h; subst h; rfl
    | i + 2, h => simp [kids] at h
section
variable {C : Ctx0} {n : Nat} {sc : Scope} {ρ : List (Str × PV)} {st : List PObj} {Q : Post}
theorem SlOp.tmTo {t : Tm} {i : Nat} (h : i < (kids t).length) (q : Q (.tup ((PV.str (opOf t) :: (kids t).map tm).take (i + 1))) st) : SlOp C n (tm t) .none (.int ((i + 1 : Nat) : Int)) st Q := by
  rw [tm_eq]
  have := kids_len t
  exact SlOp.to (b := i + 1) (by simp; omega) (by simp; omega) q
theorem SlOp.tmFrom {t : Tm} {i : Nat} (h : i < (kids t).length) (q : Q (.tup ((PV.str (opOf t) :: (kids t).map tm).drop (i + 2))) st) : SlOp C n (tm t) (.int ((i + 2 : Nat) : Int)) .none st Q := by
  rw [tm_eq]
  have := kids_len t
  exact SlOp.from (a := i + 2) (by walk_at "om") (by simp; omega) (by simp; omega) q
end
theorem laid_spec {C : Ctx0} (f : Tm) : ∀ (p : List Nat) (n : Nat) (t : Tm) (st : List PObj), p.length ≤ n → p.length ≤ 20 → (stand t p).isSome = true → CF C (n + 1) 198 [tm t, pathPV p, tm f] st (fun v st' => v = tm (lay t p f) ∧ st' = st) := by
  intro p
  induction p with
  | nil =>
    intro n t st _ _ _
    refine CF.enter (names := ["t", "path", "fresh"]) (by k_is) (by k_is) rfl (len3 (fun a b c => by exact rfl)) (by decide) (by decide) (by decide) (by decide) (by decide) (by decide) (by decide) (by decide) ?_
    walk_at "py"
    refine ⟨by simp, ?_⟩
    refine Op2.eqD (by rfl) (by rfl) ?_
    refine ⟨_, rfl, fun hb => ?_, fun hb => ?_⟩
    · walk_at "py"
      exact ⟨by unfold lay; rfl, rfl⟩
    · exact absurd hb (by decide)
  | cons i p ih =>
    intro n t st hn h20 hs
    unfold stand at hs
    cases hk : (kids t)[i]? with
    | none => rw [hk] at hs; cases hs
    | some k =>
      rw [hk] at hs
      have hlt := (List.getElem?_eq_some_iff.mp hk).1
      rw [List.length_cons] at hn h20
      have hkl := kids_len t
      refine CF.enter (names := ["t", "path", "fresh"]) (by k_is) (by k_is) rfl (len3 (fun a b c => by exact rfl)) (by decide) (by decide) (by decide) (by decide) (by decide) (by decide) (by decide) (by decide) ?_
      walk_at "py"
      refine ⟨by simp, ?_⟩
      have hdt : dtOk 10 (pathPV (i :: p)) = true := by
        show ((i :: p).map fun (i : Nat) => PV.int i).all (dtOk 9) = true
        rw [List.all_eq_true]
        intro x hx
        obtain ⟨y, _, rfl⟩ := List.mem_map.mp hx
        rfl
      refine Op2.eqD hdt (by rfl) ?_
      refine ⟨_, rfl, fun hb => ?_, fun hb => ?_⟩
      · exact absurd hb (by simp [pathPV, toPy, toPys, PyData.eqv, PyData.eqvAll])
      walk_at "py"
      refine ItemOp.tup (k := 0) (by decide) (p := .int (i : Int)) rfl ?_
      walk_at "py"
      have ei : ((i : Nat) : Int) + 1 = ((i + 1 : Nat) : Int) := by walk_at "om"
      rw [ei]
      refine SlOp.tmTo hlt ?_
      walk_at "py"
      refine ItemOp.tmK hk ?_
      walk_at "py"
      refine SlOp.from (a := 1) (Nat.le_refl _) (by simp) (by simp; omega) ?_
      walk_at "py"
      show CF C n 198 [tm k, pathPV p, tm f] st _
      refine CF.go0 ((ih (n - 1) k st (by walk_at "om") (by walk_at "om") hs)) (by walk_at "om") ?_
      walk_at "py"
      refine ⟨by simp, ?_⟩
      have tl := List.length_take_le (i + 1) (PV.str (opOf t) :: (kids t).map tm)
      have dl : ((PV.str (opOf t) :: (kids t).map tm).drop (i + 2)).length ≤ 3 := by simp; omega
      refine Op2.addT ?_ ?_
      · simp only [List.length_cons, List.length_nil, List.length_map] at tl ⊢
        omega
      walk_at "py"
      have ei2 : ((i + 1 : Nat) : Int) + 1 = ((i + 2 : Nat) : Int) := by walk_at "om"
      rw [ei2]
      refine SlOp.tmFrom hlt ?_
      refine Op2.addT ?_ ?_
      · simp only [List.length_append, List.length_cons, List.length_nil, List.length_map] at tl dl ⊢
        omega
      exact ⟨lay_step hk p f, rfl⟩
noncomputable def wS (wt : Tab) (op : Str) : Int := if op = Str.ofString "?x" ∨ op = Str.ofString "?y" then 1 else (wt.lookup op).getD 1
theorem isVar_op (t : Tm) : isVar t = true ↔ (opOf t = Str.ofString "?x" ∨ opOf t = Str.ofString "?y") := by
  cases t with
  | L l => cases l <;> decide +kernel
  | F _ => show false = true ↔ (Str.ofString "f" = Str.ofString "?x" ∨ Str.ofString "f" = Str.ofString "?y"); decide +kernel
  | G _ _ => show false = true ↔ (Str.ofString "g" = Str.ofString "?x" ∨ Str.ofString "g" = Str.ofString "?y"); decide +kernel
theorem wS_op (wt : Tab) (t : Tm) : wS wt (opOf t) = wOf wt t := by
  unfold wS wOf
  by_cases h : isVar t = true
  · rw [if_pos h, if_pos ((isVar_op t).mp h)]
  · rw [if_neg h, if_neg fun q => h ((isVar_op t).mpr q)]
noncomputable def tabSum (wt w : Tab) : Int := (w.map fun x => x.2 * wS wt x.1).sum
theorem tabSum_add (wt : Tab) (k : Str) : ∀ (w : Tab), tabSum wt (updTab w k ((w.lookup k).getD 0 + 1)) = tabSum wt w + wS wt k
  | [] => by simp [tabSum, updTab]
  | (y, q) :: r => by
    have ih := tabSum_add wt k r
    rw [List.lookup_cons]
    unfold updTab
    by_cases e : (y == k) = true
    · have ey : y = k := eq_of_beq e
      subst ey
      simp only [beq_self_eq_true, if_true, Option.getD_some, tabSum, List.map_cons, List.sum_cons]
      have : (q + 1) * wS wt y = q * wS wt y + wS wt y := by rw [Int.add_mul, Int.one_mul]
      omega
    · have ne : y ≠ k := by simpa using e
      have e2 : (k == y) = false := by simpa using fun q : k = y => ne q.symm
      rw [if_neg e]
      simp only [e2, tabSum, List.map_cons, List.sum_cons] at ih ⊢
      omega
noncomputable def nodes : Tm → Nat
  | .L _ => 1
  | .F t => nodes t + 1
  | .G s t => nodes s + nodes t + 1
theorem nodes_kids (t : Tm) : nodes t = 1 + ((kids t).map nodes).sum := by cases t <;> simp [nodes, kids] <;> omega
theorem nodes_pos (t : Tm) : 1 ≤ nodes t := by cases t <;> simp [nodes]
theorem nodes_ht : ∀ (t : Tm), nodes t + 1 ≤ 2 ^ ht t
  | .L _ => by simp [nodes, ht]
  | .F t => by
    have := nodes_ht t
    simp only [nodes, ht, Nat.pow_succ]
    have := Nat.one_le_two_pow (n := ht t)
    omega
  | .G s t => by
    have h1 := nodes_ht s
    have h2 := nodes_ht t
    have e1 := Nat.pow_le_pow_right (n := 2) (by walk_at "om") (Nat.le_max_left (ht s) (ht t))
    have e2 := Nat.pow_le_pow_right (n := 2) (by walk_at "om") (Nat.le_max_right (ht s) (ht t))
    simp only [nodes, ht, Nat.pow_succ]
    omega
theorem weight_kids (wt : Tab) (t : Tm) : weightV wt t = wOf wt t + ((kids t).map (weightV wt)).sum := by
  have shift : ∀ (k : Tm) (i : Nat), ((partsL k).map (fun x : List Nat × Tm => ((i :: x.1, x.2) : List Nat × Tm))).map (fun x => wOf wt x.2) = (partsL k).map fun x => wOf wt x.2 := fun k i => by rw [List.map_map]; rfl
  cases t with
  | L l => simp [weightV, partsL, kids]
  | F t => simp only [weightV, partsL, kids, List.map_cons, List.map_nil, List.sum_cons, List.sum_nil, shift]; omega
  | G s t => simp only [weightV, partsL, kids, List.map_cons, List.map_nil, List.sum_cons, List.sum_nil, List.map_append, List.sum_append, shift]; omega
theorem len_le_nodes : ∀ (l : List Tm), l.length ≤ (l.map nodes).sum
  | [] => by simp
  | t :: l => by
    have := len_le_nodes l
    have := nodes_pos t
    simp only [List.length_cons, List.map_cons, List.sum_cons]
    omega
theorem stack_empty (l : List Tm) : (!PyData.eqvAll (toPys (l.map tm)) (toPys [])) = !l.isEmpty := by
  cases l with
  | nil => rfl
  | cons t l => rfl
/-- the state of the weighing: what is open, what is told -/
structure HW (wt : Tab) (t : Tm) (ti oi : Nat) (st₀ : List PObj) (k : Nat) (stack : List Tm) (w : Tab) (st : List PObj) : Prop where
  fo : st[oi]? = some (.list (stack.map tm))
  ft : TabAt' st ti w
  fsum : tabSum wt w + (stack.map (weightV wt)).sum = weightV wt t
  fsz : (stack.map nodes).sum = k
  flen : w.length + k ≤ nodes t
  fhs : ∀ x ∈ stack, ht x ≤ 7
  fkeys : ∀ x ∈ w, ∃ t', x.1 = opOf t'
  fnd : (w.map (·.1)).Nodup
  fval : ∀ x ∈ w, 0 ≤ x.2 ∧ x.2 + k ≤ nodes t
  fko : KO [] st₀ st
theorem updTab_val {w : Tab} {k : Str} {v : Int} {P : Str × Int → Prop} (h : ∀ x ∈ w, P x) (hv : P (k, v)) : ∀ x ∈ updTab w k v, P x := by
  induction w with
  | nil => intro x hx; simp [updTab] at hx; subst hx; exact hv
  | cons y w ih =>
    obtain ⟨y, q⟩ := y
    intro x hx
    unfold updTab at hx
    split at hx
    · rcases List.mem_cons.mp hx with rfl | hx
      · exact hv
      · exact h x (.tail _ hx)
    · rcases List.mem_cons.mp hx with rfl | hx
      · exact h _ (.head _)
      · exact ih (fun z hz => h z (.tail _ hz)) x hx
theorem updTab_len (w : Tab) (k : Str) (v : Int) : (updTab w k v).length ≤ w.length + 1 := by
  induction w with
  | nil => simp [updTab]
  | cons y w ih =>
    obtain ⟨y, q⟩ := y
    unfold updTab
    split
    · simp
    · simp only [List.length_cons]; omega
theorem lookup_mem' {w : Tab} {k : Str} : (w.lookup k).getD 0 = 0 ∨ (k, (w.lookup k).getD 0) ∈ w := by
  cases h : w.lookup k with
  | none => exact .inl rfl
  | some v => exact .inr (lookup_mem h)
theorem heft_spec {C : Ctx0} {n : Nat} {wt : Tab} {wi : Nat} (t : Tm) (h7 : ht t ≤ 7) {st : List PObj} (hw : TabAt' st wi wt) : CF C (n + 1) 181 [tm t, .loc wi] st (fun v st' => v = .int (weightV wt t) ∧ KO [] st st') := by
  have hn := nodes_ht t
  have h27 := Nat.pow_le_pow_right (n := 2) (by walk_at "om") h7
  have h128 : 2 ^ 7 = 128 := by decide
  refine CF.enter (names := ["t", "weights"]) (by k_is) (by k_is) rfl (len2 (fun a b => by exact rfl)) (by decide) (by decide) (by decide) (by decide) (by decide) (by decide) (by decide) (by decide) ?_
  walk_at "py"
  refine X1.assignT (fun e => rfl) (fun env e hk => ?_) ?_
  · unfold swappedStores Env.blockKind Env.kindOf
    rw [hk, e]
    rfl
  walk_at "py"
  refine W.dictS ?_
  walk_at "py"
  refine ⟨by simp, ?_⟩
  walk_at "py"
  refine ⟨by simp, ?_⟩
  refine Asg.tup (fun e => rfl) rfl rfl ?_
  refine AsgO.nameC (by decide) (AsgO.nameC (by decide) ?_)
  have ho0 : (st ++ [PObj.sd [] 0] ++ [PObj.list [tm t]])[(st ++ [PObj.sd [] 0]).length]? = some (.list [tm t]) := get_new
  have ht0 : (st ++ [PObj.sd [] 0] ++ [PObj.list [tm t]])[st.length]? = some (.sd [] 0) := get_app get_new
  generalize hoi : (st ++ [PObj.sd [] 0]).length = oi at *
  have hoi' : oi = st.length + 1 := by rw [← hoi]; simp
  have hko0 : KO [] st (st ++ [PObj.sd [] 0] ++ [PObj.list [tm t]]) := (KO.app _ _ _).trans (KO.app _ _ _)
  generalize (st ++ [PObj.sd [] 0] ++ [PObj.list [tm t]]) = st₁ at *
  show X C n _ _ (upd (upd ([Str.ofString "t", Str.ofString "weights"].zip [tm t, PV.loc wi]) (Str.ofString "tally") (.loc st.length)) (Str.ofString "open_ones") (.loc oi)) st₁ _ _
  refine X.cons (X1.while_ (fun k ρ' st' => (ρ' = upd (upd ([Str.ofString "t", Str.ofString "weights"].zip [tm t, PV.loc wi]) (Str.ofString "tally") (.loc st.length)) (Str.ofString "open_ones") (.loc oi) ∨ ∃ a, ρ' = upd (upd (upd ([Str.ofString "t", Str.ofString "weights"].zip [tm t, PV.loc wi]) (Str.ofString "tally") (.loc st.length)) (Str.ofString "open_ones") (.loc oi)) (Str.ofString "here") a) ∧ ∃ stack w, HW wt t st.length oi st k stack w st') (nodes t) ⟨.inl rfl, [t], [], ⟨ho0, ⟨0, ht0⟩, by simp [tabSum], by simp, by simp, by simpa using h7, by simp, by simp, by simp, hko0⟩⟩ ?_)
  rintro k ρ' st' ⟨hρ, stack, w, H⟩
  have hlk : stack.length ≤ k := by have := len_le_nodes stack; have := H.fsz; omega
  have hk128 : k ≤ 128 := by have := H.flen; omega
  have hoL : ρ'.lookup (Str.ofString "open_ones") = some (.loc oi) := by rcases hρ with rfl | ⟨a, rfl⟩ <;> rfl
  refine T.cmp rfl (W.nameL (by decide) hoL (by decide) ?_)
  walk_at "py"
  refine ⟨by simp, ?_⟩
  refine Op2.neL (get_app H.fo) get_new (fun p hp => ?_) (by simp) ?_
  · obtain ⟨x, hx, rfl⟩ := List.mem_map.mp hp
    exact dtOk_of_keyOk _ _ (tm_key x _ (by have := H.fhs x hx; omega))
  rw [stack_empty]
  have hoi2 : oi < st'.length := get_lt H.fo
  have H1 : HW wt t st.length oi st k stack w (st' ++ [PObj.list []]) := ⟨get_app H.fo, H.ft.ko (KO.app [] _ _) (by simp), H.fsum, H.fsz, H.flen, H.fhs, H.fkeys, H.fnd, H.fval, H.fko.trans (KO.app _ _ _)⟩
  generalize (st' ++ [PObj.list []]) = st₂ at *
  refine ⟨_, rfl, fun hb => ?_, fun hb => ?_⟩
  · have hne : stack ≠ [] := by intro q; rw [q] at hb; cases hb
    obtain ⟨init, here, rfl⟩ : ∃ init here, stack = init ++ [here] := ⟨_, _, (List.dropLast_concat_getLast hne).symm⟩
    have hfo := H1.fo
    rw [List.map_append] at hfo
    refine X.cons (X1.assign (by decide) (fun e => rfl) (W.methB0 F.plainAttrs_list F.slot_list_pop F.type_list_pop (fun e => rfl) (W.nameL (by decide) hoL (by decide) ?_)))
    refine ⟨rfl, by simp [isList, hfo], ?_⟩
    have hil : init.length + 1 ≤ k := by simpa using hlk
    refine OpN.pop hfo (by rw [List.length_map]; omega) ?_
    have hρ' : upd ρ' (Str.ofString "here") (tm here) = upd (upd (upd ([Str.ofString "t", Str.ofString "weights"].zip [tm t, PV.loc wi]) (Str.ofString "tally") (.loc st.length)) (Str.ofString "open_ones") (.loc oi)) (Str.ofString "here") (tm here) := by
      rcases hρ with rfl | ⟨a, rfl⟩ <;> rfl
    first | refine X.rho (hρ' _) ?_ | refine X.rho (hρ' _ _) ?_ | refine W.rho (hρ' _ _) ?_ | refine W.rho (hρ' _) ?_ | rw [hρ']
    have hti : st.length ≠ oi := by walk_at "om"
    have hwi : wi ≠ oi := by
      intro q
      obtain ⟨ep, e⟩ := hw
      have := H1.fko.get e
      rw [q, H1.fo] at this; cases this
    have ko3 : KO [oi] st₂ (st₂.set oi (.list (init.map tm))) := KO.set _ _ _
    have fo3 : (st₂.set oi (.list (init.map tm)))[oi]? = some (.list (init.map tm)) := get_set H1.fo
    obtain ⟨ept, ft3⟩ := H1.ft.ko ko3 (by simpa using hti)
    have gko3 : KO [] st (st₂.set oi (.list (init.map tm))) := H1.fko.setNew (by walk_at "om")
    generalize (st₂.set oi (.list (init.map tm))) = st₃ at *
    walk_at "py"
    refine ⟨by rw [if_pos rfl]; simp [isDict, ft3], ?_⟩
    walk_at "py"
    refine ItemOp.tm0 ?_
    walk_at "py"
    refine OpN.getSd ft3 ?_
    rw [tab_get]
    walk_at "py"
    refine ItemOp.tm0 ?_
    have hwl : w.length ≤ 1000 := by have := H1.flen; omega
    refine SetOp.sd ft3 (by unfold tabPV; rw [List.length_map]; omega) fun ep' => ?_
    rw [tab_upd]
    have fo4 : (st₃.set st.length (.sd (tabPV (updTab w (opOf here) ((w.lookup (opOf here)).getD 0 + 1))) ep'))[oi]? = some (.list (init.map tm)) := by
      rw [List.getElem?_set_ne hti]; exact fo3
    have ft4 : (st₃.set st.length (.sd (tabPV (updTab w (opOf here) ((w.lookup (opOf here)).getD 0 + 1))) ep'))[st.length]? = some (.sd (tabPV (updTab w (opOf here) ((w.lookup (opOf here)).getD 0 + 1))) ep') := get_set ft3
    have gko4 := gko3.setNew (k := st.length) (po := .sd (tabPV (updTab w (opOf here) ((w.lookup (opOf here)).getD 0 + 1))) ep') (Nat.le_refl _)
    generalize (st₃.set st.length (.sd (tabPV (updTab w (opOf here) ((w.lookup (opOf here)).getD 0 + 1))) ep')) = st₄ at *
    walk_at "py"
    refine ⟨by rw [if_neg (by decide)]; exact ⟨rfl, by simp [isList, fo4]⟩, ?_⟩
    walk_at "py"
    refine SlOp.tm1 ?_
    walk_at "py"
    refine OpN.extend fo4 (.inl rfl) (by rw [List.length_map, List.length_map]; have := kids_len here; omega) ?_
    walk_at "py"
    have hsz := H1.fsz
    have hsum := H1.fsum
    simp only [List.map_append, List.map_cons, List.map_nil, List.sum_append, List.sum_cons, List.sum_nil] at hsz hsum
    have hnk := nodes_kids here
    have hwk := weight_kids wt here
    refine ⟨(init.map nodes).sum + ((kids here).map nodes).sum, by walk_at "om", .inr ⟨_, by first | exact e _ | exact hρ' _ | rfl⟩, init ++ kids here, updTab w (opOf here) ((w.lookup (opOf here)).getD 0 + 1), ?_⟩
    refine ⟨?_, ⟨ep', ?_⟩, ?_, ?_, ?_, ?_, ?_, ?_, ?_, ?_⟩
    · rw [get_set fo4, List.map_append]
    · rw [List.getElem?_set_ne (Ne.symm hti)]; exact ft4
    · rw [tabSum_add, wS_op, List.map_append, List.sum_append]
      omega
    · rw [List.map_append, List.sum_append]
    · have := H1.flen; have := updTab_len w (opOf here) ((w.lookup (opOf here)).getD 0 + 1); omega
    · intro x hx
      rcases List.mem_append.mp hx with hx | hx
      · exact H1.fhs x (List.mem_append.mpr (.inl hx))
      · have := kids_ht hx
        have := H1.fhs here (by simp)
        omega
    · exact updTab_val H1.fkeys ⟨here, rfl⟩
    · exact (updTab_keys _ _ _).2 H1.fnd
    · have hval := H1.fval
      refine updTab_val (fun x hx => ⟨(hval x hx).1, by have := (hval x hx).2; omega⟩) ?_
      have hk := H1.flen
      rcases lookup_mem' (w := w) (k := opOf here) with h | h
      · rw [h]; exact ⟨by simp, by simp only; omega⟩
      · have := hval _ h
        refine ⟨by have := this.1; simp only at this ⊢; omega, by have := this.2; simp only at this ⊢; omega⟩
    · exact gko4.setNew (by walk_at "om")
  · have hemp : stack = [] := by cases stack with | nil => rfl | cons _ _ => cases hb
    subst hemp
    rcases hρ with rfl | ⟨a, rfl⟩
    all_goals (
      walk_at "py"
      refine WI.dict ?_
      walk_at "py"
      obtain ⟨ept, hT⟩ := H1.ft
      have hwl : w.length ≤ 1000 := by have := H1.flen; omega
      refine ⟨_, _, _, rfl, hT, hT, by unfold tabPV; rw [List.length_map, List.length_map]; omega, ?_⟩
      refine CT.inv (all := (tabPV w).map fun x => .str x.1) (fun idx ρ' acc st' => (ρ' = [(Str.ofString "weights", PV.loc wi), (Str.ofString "tally", PV.loc st.length)] ∨ ∃ a, ρ' = upd [(Str.ofString "weights", PV.loc wi), (Str.ofString "tally", PV.loc st.length)] (Str.ofString "op") a) ∧ acc = ((w.take idx).map fun x => x.2 * wS wt x.1).map .int ∧ KO [] st₂ st') ?_ ?_ _ 0 _ [] _ rfl (Nat.zero_le _) ⟨.inl rfl, by simp, KO.refl _ _⟩ hT
      · rintro idx pv ρ'' acc st₃ hp ⟨hρ2, rfl, hko3⟩ hG
        unfold tabPV at hp
        rw [List.getElem?_map, List.getElem?_map] at hp
        cases hx : w[idx]? with
        | none => rw [hx] at hp; cases hp
        | some x =>
          rw [hx] at hp
          obtain ⟨op, v⟩ := x
          obtain rfl : pv = .str op := (Option.some.inj hp).symm
          have hmem := List.mem_of_getElem? hx
          obtain ⟨t', ht'⟩ := H1.fkeys _ hmem
          simp only at ht'
          subst ht'
          have hv := H1.fval _ hmem
          simp only at hv
          have hlook : w.lookup (opOf t') = some v := mem_lookup H1.fnd hmem
          have hT3 := hko3.get hT
          obtain ⟨epw, hW3⟩ := hw.ko (H1.fko.trans hko3) (by simp)
          refine AsgL.name (by decide) ?_
          have e : ∀ a, upd ρ'' (Str.ofString "op") a = upd [(Str.ofString "weights", PV.loc wi), (Str.ofString "tally", PV.loc st.length)] (Str.ofString "op") a := by
            intro a; rcases hρ2 with rfl | ⟨_, rfl⟩ <;> rfl
          rw [e]
          have hsn : ((w.take (idx + 1)).map fun x => x.2 * wS wt x.1).map PV.int = ((w.take idx).map fun x => x.2 * wS wt x.1).map PV.int ++ [PV.int (v * wOf wt t')] := by
            rw [List.take_add_one, hx, List.map_append, List.map_append, ← wS_op]; rfl
          have hbits : Builtin.Int.intBits v ≤ 64 := bits_small hv.1 (by have := hv.2; omega)
          refine ⟨fun _ => ?_, fun h => by cases h⟩
          walk_at "py"
          refine ItemOp.sd hT3 (p := .int v) (by rw [tab_lookup, hlook]; rfl) ?_
          walk_at "py"
          refine ItemOp.op0 ?_
          walk_at "py"
          rw [head_var]
          refine ⟨_, rfl, fun hc => ?_, fun hc => ?_⟩
          · walk_at "py"
            refine Op2.mulI (IntMulOk.of_left hbits) ?_
            exact ⟨hG, .inr ⟨_, by first | exact e _ | exact hρ' _ | rfl⟩, by rw [hsn]; unfold wOf; rw [if_pos hc], hko3⟩
          · walk_at "py"
            refine ⟨by rw [if_pos rfl]; simp [isDict, hW3], ?_⟩
            walk_at "py"
            refine OpN.getSd hW3 ?_
            rw [tab_get]
            refine Op2.mulI (IntMulOk.of_left hbits) ?_
            exact ⟨hG, .inr ⟨_, by first | exact e _ | exact hρ' _ | rfl⟩, by rw [hsn]; unfold wOf; rw [if_neg (by rw [hc]; simp)], hko3⟩
      rintro ρ3 acc st₄ ⟨_, rfl, hko4⟩
      rw [List.length_map, show (tabPV w).length = w.length from List.length_map _, List.take_length]
      walk_at "py"
      refine OpN.sumL get_new ?_
      have hs := H1.fsum
      simp only [List.map_nil, List.sum_nil, Int.add_zero] at hs
      refine ⟨?_, (H1.fko.trans hko4).trans (KO.app _ _ _)⟩
      rw [← hs]; rfl)
noncomputable def gap (wt : Tab) (p q : Lf) (s t : Tm) : Int := weightV wt (mt p q s) - weightV wt (mt p q t)
noncomputable def gaps (wt : Tab) (s t : Tm) : List Int := [gap wt .u .u s t, gap wt .h .u s t, gap wt .u .h s t]
noncomputable def neg (wt : Tab) (s t : Tm) : Bool := (gaps wt s t).any fun g => decide (g < 0)
noncomputable def diffs (s t : Tm) : List Nat := (List.range (kids s).length).filter fun i => decide ((kids s)[i]? ≠ (kids t)[i]?)
noncomputable def says (wt rk : Tab) : Nat → Tm → Tm → Bool
  | 0, _, _ => false
  | n + 1, s, t =>
    if (isVar s || decide (s = t)) = true then false
    else if (neg wt s t || decide (gap wt .u .u s t > 0)) = true then !neg wt s t
    else if same3 rk s t = false then gt3 (rkOf rk s) (opOf s) (kids s).length (rkOf rk t) (opOf t) (kids t).length
    else match (diffs s t).head? with
      | some i => match (kids s)[i]?, (kids t)[i]? with
        | some a, some b => says wt rk n a b
        | _, _ => false
      | none => false
theorem mt_ht (p q : Lf) : ∀ (t : Tm), ht (mt p q t) = ht t
  | .L l => by cases l <;> rfl
  | .F t => by simp [mt, ht, mt_ht p q t]
  | .G s t => by simp [mt, ht, mt_ht p q s, mt_ht p q t]
theorem gt3_succ (i : Int) (x : Str) (a : Int) (i' : Int) (x' : Str) (b : Int) : gt3 i x (a + 1) i' x' (b + 1) = gt3 i x a i' x' b := by
  unfold gt3
  have : decide (a + 1 > b + 1) = decide (a > b) := by
    by_cases h : a > b
    · rw [decide_eq_true h, decide_eq_true (by walk_at "om")]
    · rw [decide_eq_false h, decide_eq_false (by walk_at "om")]
  rw [this]
theorem sorted_head {l ns : List Int} (hp : ns.Perm l) (hs : ns.Pairwise (· ≤ ·)) (h0 : l ≠ []) : ∃ m r, ns = m :: r ∧ (decide (m < 0) = l.any fun g => decide (g < 0)) := by
  cases ns with
  | nil => exact absurd hp.nil_eq.symm h0
  | cons m r =>
    refine ⟨m, r, rfl, ?_⟩
    rw [Bool.eq_iff_iff, List.any_eq_true, decide_eq_true_iff]
    constructor
    · exact fun h => ⟨m, hp.mem_iff.mp (.head _), decide_eq_true h⟩
    · rintro ⟨g, hg, hlt⟩
      have hg' := hp.mem_iff.mpr hg
      have hlt' := of_decide_eq_true hlt
      rcases List.mem_cons.mp hg' with rfl | hg'
      · exact hlt'
      · have := (List.pairwise_cons.mp hs).1 g hg'
        omega
noncomputable def pl1 (rk : Tab) (x : Tm) : PV := .tup [.int (rkOf rk x), .str (opOf x), .int ((kids x).length + 1)]
theorem pl1_eqv (rk : Tab) (s t : Tm) : PyData.eqv (toPy (pl1 rk s)) (toPy (pl1 rk t)) = same3 rk s t := by
  have e : ∀ (a b : Nat), ((a : Int) + 1 == (b : Int) + 1) = (a == b) := fun a b => by
    by_cases h : a = b
    · subst h; simp
    · have h' : ((a : Int) + 1) ≠ (b : Int) + 1 := by walk_at "om"
      rw [beq_eq_false_iff_ne.mpr h, beq_eq_false_iff_ne.mpr h']
  simp only [pl1, toPy, toPys, PyData.eqv, PyData.eqvAll, same3, Bool.and_true, e, Bool.and_assoc]
theorem diffs_some {rk : Tab} {s t : Tm} (hne : s ≠ t) (h3 : same3 rk s t = true) : ∃ i a b, (diffs s t).head? = some i ∧ (kids s)[i]? = some a ∧ (kids t)[i]? = some b := by
  unfold same3 at h3
  simp only [Bool.and_eq_true, beq_iff_eq] at h3
  obtain ⟨⟨_, ho⟩, hk⟩ := h3
  cases s with
  | L l =>
    cases t with
    | L l' => exact absurd (congrArg Tm.L (str_inj ho)) hne
    | F _ => simp [kids] at hk
    | G _ _ => simp [kids] at hk
  | F a =>
    cases t with
    | L _ => simp [kids] at hk
    | F b =>
      have hab : a ≠ b := fun q => hne (by rw [q])
      refine ⟨0, a, b, ?_, rfl, rfl⟩
      have : diffs (.F a) (.F b) = [0] := by simp [diffs, kids, List.range_succ, hab]
      rw [this]; rfl
    | G _ _ => simp [kids] at hk
  | G a b =>
    cases t with
    | L _ => simp [kids] at hk
    | F _ => simp [kids] at hk
    | G c d =>
      by_cases hac : a = c
      · have hbd : b ≠ d := fun q => hne (by rw [hac, q])
        refine ⟨1, b, d, ?_, rfl, rfl⟩
        have : diffs (.G a b) (.G c d) = [1] := by simp [diffs, kids, List.range_succ, hac, hbd]
        rw [this]; rfl
      · refine ⟨0, a, c, ?_, rfl, rfl⟩
        by_cases hbd : b = d
        · have : diffs (.G a b) (.G c d) = [0] := by simp [diffs, kids, List.range_succ, hac, hbd]
          rw [this]; rfl
        · have : diffs (.G a b) (.G c d) = [0, 1] := by simp [diffs, kids, List.range_succ, hac, hbd]
          rw [this]; rfl
theorem says_spec {C : Ctx0} {wt rk : Tab} {wi ri : Nat} : ∀ (h : Nat) (s t : Tm) (st : List PObj), ht s ≤ h → ht s ≤ 7 → ht t ≤ 7 → TabAt' st wi wt → TabAt' st ri rk → CF C (h + 8) 217 [.loc wi, .loc ri, tm s, tm t] st (fun v st' => v = .bool (says wt rk h s t) ∧ KO [] st st') := by
  intro h
  induction h with
  | zero => intro s t st h; have := ht_pos s; omega
  | succ h ih =>
    intro s t st hh hs ht' hW hR
    refine CF.enter (names := ["weights", "ranks", "s", "t"]) (by k_is) (by k_is) rfl (len4 (fun a b c d => by exact rfl)) (by decide) (by decide) (by decide) (by decide) (by decide) (by decide) (by decide) (by decide) ?_
    walk_at "py"
    refine ItemOp.tm0 ?_
    walk_at "py"
    refine ItemOp.op0 ?_
    walk_at "py"
    rw [head_var]
    refine ⟨_, rfl, fun hb => ?_, fun hb => ?_⟩
    · refine ⟨fun _ => ?_, fun h => by cases h⟩
      walk_at "py"
      exact ⟨by unfold says; rw [if_pos (by simp [hb])], KO.refl _ _⟩
    walk_at "py"
    refine Op2.eqD (dtOk_of_keyOk _ _ (tm_key s _ (by walk_at "om"))) (dtOk_of_keyOk _ _ (tm_key t _ (by walk_at "om"))) ?_
    rw [tm_eqv]
    refine ⟨_, rfl, fun hb2 => ?_, fun hb2 => ?_⟩
    · refine ⟨fun _ => ?_, fun h => by cases h⟩
      walk_at "py"
      exact ⟨by unfold says; rw [if_pos (by simp [hb2])], KO.refl _ _⟩
    walk_at "py"
    refine ⟨fun h => (by cases h), fun _ => ?_⟩
    walk_at "py"
    refine X1.assignComp rfl (by decide) (by decide) (by decide) (fun e x => rfl) rfl (by decide) (by decide) (WI.list ?_)
    walk_at "py"
    refine CF.go0 ((ways_spec (n := 0))) (by walk_at "om") ?_
    have hl : (st ++ [PObj.list [PV.tup [PV.str Lf.u.str, PV.str Lf.u.str], PV.tup [PV.str Lf.h.str, PV.str Lf.u.str], PV.tup [PV.str Lf.u.str, PV.str Lf.h.str]]])[st.length]? = some (.list ([(Lf.u, Lf.u), (Lf.h, Lf.u), (Lf.u, Lf.h)].map fun x => PV.tup [PV.str x.1.str, PV.str x.2.str])) := get_new
    have hko1 : KO [] st (st ++ [PObj.list [PV.tup [PV.str Lf.u.str, PV.str Lf.u.str], PV.tup [PV.str Lf.h.str, PV.str Lf.u.str], PV.tup [PV.str Lf.u.str, PV.str Lf.h.str]]]) := KO.app _ _ _
    generalize (st ++ [PObj.list [PV.tup [PV.str Lf.u.str, PV.str Lf.u.str], PV.tup [PV.str Lf.h.str, PV.str Lf.u.str], PV.tup [PV.str Lf.u.str, PV.str Lf.h.str]]]) = st₁ at *
    refine ⟨_, _, rfl, hl, hl, by simp, ?_⟩
    have c0 : cellsOf = cellsOf := rfl
    refine CT.inv (all := [(Lf.u, Lf.u), (Lf.h, Lf.u), (Lf.u, Lf.h)].map fun x => PV.tup [PV.str x.1.str, PV.str x.2.str]) (fun idx ρ' acc st' => (ρ' = [(Str.ofString "weights", PV.loc wi), (Str.ofString "s", tm s), (Str.ofString "t", tm t)] ∨ ∃ a b, ρ' = upd (upd [(Str.ofString "weights", PV.loc wi), (Str.ofString "s", tm s), (Str.ofString "t", tm t)] (Str.ofString "x") a) (Str.ofString "y") b) ∧ acc = ((gaps wt s t).take idx).map .int ∧ KO [] st₁ st') ?_ ?_ _ 0 _ [] _ rfl (Nat.zero_le _) ⟨.inl rfl, by simp, KO.refl _ _⟩ hl
    · rintro idx pv ρ'' acc st₃ hp ⟨hρ2, rfl, hko3⟩ hG
      rw [List.getElem?_map] at hp
      cases hx : [(Lf.u, Lf.u), (Lf.h, Lf.u), (Lf.u, Lf.h)][idx]? with
      | none => rw [hx] at hp; cases hp
      | some x =>
        rw [hx] at hp
        obtain ⟨p, q⟩ := x
        obtain rfl : pv = PV.tup [PV.str p.str, PV.str q.str] := (Option.some.inj hp).symm
        have hg : (gaps wt s t)[idx]? = some (gap wt p q s t) := by
          match idx, hx with
          | 0, hx => simp at hx; obtain ⟨rfl, rfl⟩ := hx; rfl
          | 1, hx => simp at hx; obtain ⟨rfl, rfl⟩ := hx; rfl
          | 2, hx => simp at hx; obtain ⟨rfl, rfl⟩ := hx; rfl
          | i + 3, hx => simp at hx
        refine AsgL.tup (fun e => rfl) rfl rfl ?_
        refine AsgO.nameL (fun _ => .head _) (by decide) (AsgO.nameL (fun _ => .head _) (by decide) ?_)
        have e : ∀ a b, upd (upd ρ'' (Str.ofString "x") a) (Str.ofString "y") b = upd (upd [(Str.ofString "weights", PV.loc wi), (Str.ofString "s", tm s), (Str.ofString "t", tm t)] (Str.ofString "x") a) (Str.ofString "y") b := by
          intro a b; rcases hρ2 with rfl | ⟨_, _, rfl⟩ <;> rfl
        refine ⟨fun _ => ?_, fun h => by cases h⟩
        show W C _ _ _ (upd (upd ρ'' (Str.ofString "x") _) (Str.ofString "y") _) st₃ _
        first | refine X.rho (e _) ?_ | refine X.rho (e _ _) ?_ | refine W.rho (e _ _) ?_ | refine W.rho (e _) ?_ | rw [e]
        walk_at "py"
        refine CF.go ((meant_spec p q (ht s) s st₃ (Nat.le_refl _) hs)) (by walk_at "om") fun st₄ hko4 => ?_
        walk_at "py"
        refine CF.go ((heft_spec (n := 0) (mt p q s) (by rw [mt_ht]; exact hs) (hW.ko ((hko1.trans hko3).trans hko4) (by simp)))) (by walk_at "om") fun st₅ hko5 => ?_
        walk_at "py"
        refine CF.go ((meant_spec p q (ht t) t st₅ (Nat.le_refl _) ht')) (by walk_at "om") fun st₆ hko6 => ?_
        walk_at "py"
        have hko16 := (((hko1.trans hko3).trans hko4).trans hko5).trans hko6
        refine CF.go ((heft_spec (n := 0) (mt p q t) (by rw [mt_ht]; exact ht') (hW.ko hko16 (by simp)))) (by walk_at "om") fun st₇ hko7 => ?_
        have hko37 := ((hko4.trans hko5).trans hko6).trans hko7
        walk_at "py"
        exact ⟨hko37.get hG, .inr ⟨_, _, by first | exact e _ _ | rfl⟩, by rw [List.take_add_one, hg, List.map_append]; rfl, hko3.trans hko37⟩
    rintro ρ3 acc st₂ ⟨_, rfl, hko2⟩
    have hgl : (gaps wt s t).length = 3 := rfl
    rw [show ([(Lf.u, Lf.u), (Lf.h, Lf.u), (Lf.u, Lf.h)].map fun x => PV.tup [PV.str x.1.str, PV.str x.2.str]).length = (gaps wt s t).length from rfl, List.take_length]
    walk_at "py"
    have hG2 : (st₂ ++ [PObj.list ((gaps wt s t).map .int)])[st₂.length]? = some (.list ((gaps wt s t).map .int)) := get_new
    have hko02 : KO [] st (st₂ ++ [PObj.list ((gaps wt s t).map .int)]) := (hko1.trans hko2).trans (KO.app _ _ _)
    generalize hgi : st₂.length = gi at *
    generalize (st₂ ++ [PObj.list ((gaps wt s t).map .int)]) = st₃ at *
    refine OpN.sortedI hG2 (by simp [gaps]) fun ns' hp hs' => ?_
    obtain ⟨m, r, rfl, hm⟩ := sorted_head hp hs' (by simp [gaps])
    walk_at "py"
    refine ItemOp.list get_new (by decide) (p := .int m) rfl ?_
    walk_at "py"
    have hG3 := (KO.app [] st₃ [PObj.list ((m :: r).map .int)]).get hG2
    have hko3 := hko02.trans (KO.app [] st₃ [PObj.list ((m :: r).map .int)])
    generalize (st₃ ++ [PObj.list ((m :: r).map .int)]) = st₄ at *
    refine ⟨_, rfl, fun hb3 => ?_, fun hb3 => ?_⟩
    · refine ⟨fun _ => ?_, fun h => (by cases h)⟩
      have HC : neg wt s t = true := by rw [← hb3]; exact hm.symm
      walk_at "py"
      refine OpN.sortedI hG3 (by simp [gaps]) fun ns2 hp2 hs2 => ?_
      obtain ⟨m2, r2, rfl, hm2⟩ := sorted_head hp2 hs2 (by simp [gaps])
      walk_at "py"
      refine ItemOp.list get_new (by decide) (p := .int m2) rfl ?_
      walk_at "py"
      refine ⟨?_, hko3.trans (KO.app _ _ _)⟩
      have hge : decide (m2 ≥ 0) = !neg wt s t := by
        have e : neg wt s t = decide (m2 < 0) := hm2.symm
        first | refine X.rho (e _) ?_ | refine X.rho (e _ _) ?_ | refine W.rho (e _ _) ?_ | refine W.rho (e _) ?_ | rw [e]
        by_cases q : m2 < 0
        · rw [decide_eq_true q, decide_eq_false (by walk_at "om")]; rfl
        · rw [decide_eq_false q, decide_eq_true (by walk_at "om")]; rfl
      rw [hge]
      unfold says
      rw [if_neg (by simp [hb, hb2]), if_pos (by simp [HC])]
    have hneg : neg wt s t = false := by rw [← hb3]; exact hm.symm
    walk_at "py"
    refine ItemOp.list hG3 (by decide) (p := .int (gap wt .u .u s t)) rfl ?_
    walk_at "py"
    refine ⟨_, rfl, fun hb4 => ?_, fun hb4 => ?_⟩
    · refine ⟨fun _ => ?_, fun h => (by cases h)⟩
      have HC : decide (gap wt .u .u s t > 0) = true := hb4
      walk_at "py"
      refine OpN.sortedI hG3 (by simp [gaps]) fun ns2 hp2 hs2 => ?_
      obtain ⟨m2, r2, rfl, hm2⟩ := sorted_head hp2 hs2 (by simp [gaps])
      walk_at "py"
      refine ItemOp.list get_new (by decide) (p := .int m2) rfl ?_
      walk_at "py"
      refine ⟨?_, hko3.trans (KO.app _ _ _)⟩
      have hge : decide (m2 ≥ 0) = !neg wt s t := by
        have e : neg wt s t = decide (m2 < 0) := hm2.symm
        first | refine X.rho (e _) ?_ | refine X.rho (e _ _) ?_ | refine W.rho (e _ _) ?_ | refine W.rho (e _) ?_ | rw [e]
        by_cases q : m2 < 0
        · rw [decide_eq_true q, decide_eq_false (by walk_at "om")]; rfl
        · rw [decide_eq_false q, decide_eq_true (by walk_at "om")]; rfl
      rw [hge]
      unfold says
      rw [if_neg (by simp [hb, hb2]), if_pos (by simp [HC])]
    walk_at "py"
    refine ⟨fun h => (by cases h), fun _ => ?_⟩
    have hsays : says wt rk (h + 1) s t = (if same3 rk s t = false then gt3 (rkOf rk s) (opOf s) (kids s).length (rkOf rk t) (opOf t) (kids t).length
        else match (diffs s t).head? with
          | some i => match (kids s)[i]?, (kids t)[i]? with
            | some a, some b => says wt rk h a b
            | _, _ => false
          | none => false) := by
      conv => lhs; unfold says
      rw [if_neg (by simp [hb, hb2]), if_neg (by rw [hneg, show decide (gap wt .u .u s t > 0) = false from hb4]; simp)]
    rw [hsays]
    walk_at "py"
    refine X1.assignT (fun e => rfl) (fun env e hk => ?_) ?_
    · unfold swappedStores
      rfl
    walk_at "py"
    refine WI.tup ?_
    walk_at "py"
    refine ⟨by simp, ?_⟩
    have hR4 := hR.ko hko3 (by simp)
    refine ⟨[s, t].map tm, rfl, trivial, by simp, ?_⟩
    refine CT.inv (all := [s, t].map tm) (fun idx ρ' acc st' => (ρ' = [(Str.ofString "ranks", PV.loc ri)] ∨ ∃ a, ρ' = upd [(Str.ofString "ranks", PV.loc ri)] (Str.ofString "one") a) ∧ acc = (([s, t]).take idx).map (pl1 rk) ∧ KO [] st₄ st') ?_ ?_ _ 0 _ [] _ rfl (Nat.zero_le _) ⟨.inl rfl, by simp, KO.refl _ _⟩ trivial
    · rintro idx pv ρ'' acc st₅ hp ⟨hρ2, rfl, hko5⟩ hG
      rw [List.getElem?_map] at hp
      cases hx : [s, t][idx]? with
      | none => rw [hx] at hp; cases hp
      | some x =>
        rw [hx] at hp
        obtain rfl : pv = tm x := (Option.some.inj hp).symm
        refine AsgL.name (by decide) ?_
        have e : ∀ a, upd ρ'' (Str.ofString "one") a = upd [(Str.ofString "ranks", PV.loc ri)] (Str.ofString "one") a := by
          intro a; rcases hρ2 with rfl | ⟨_, rfl⟩ <;> rfl
        first | refine X.rho (e _) ?_ | refine X.rho (e _ _) ?_ | refine W.rho (e _ _) ?_ | refine W.rho (e _) ?_ | rw [e]
        obtain ⟨epr, hR5⟩ := hR4.ko hko5 (by simp)
        refine ⟨fun _ => ?_, fun h => by cases h⟩
        walk_at "py"
        refine ⟨by rw [if_pos rfl]; simp [isDict, hR5], ?_⟩
        walk_at "py"
        refine ItemOp.tm0 ?_
        walk_at "py"
        refine OpN.getSd hR5 ?_
        rw [tab_get]
        walk_at "py"
        refine ItemOp.tm0 ?_
        walk_at "py"
        refine OpN.lenM ?_
        walk_at "py"
        exact ⟨by simp, trivial, .inr ⟨_, by first | exact e _ | exact hρ' _ | rfl⟩, by rw [List.take_add_one, hx, List.map_append]; rfl, hko5⟩
    rintro ρ4 acc st₅ ⟨_, rfl, hko5⟩
    refine Asg.tup (fun e => rfl) (ps := [pl1 rk s, pl1 rk t]) get_new rfl ?_
    refine AsgO.nameC (by decide) (AsgO.nameC (by decide) ?_)
    show X C _ _ _ (upd (upd _ (Str.ofString "mine") (pl1 rk s)) (Str.ofString "theirs") (pl1 rk t)) _ _ _
    have hko6 : KO [] st (st₅ ++ [PObj.list (([s, t].take ([s, t].map tm).length).map (pl1 rk))]) := (hko3.trans hko5).trans (KO.app _ _ _)
    generalize (st₅ ++ [PObj.list (([s, t].take ([s, t].map tm).length).map (pl1 rk))]) = st₆ at *
    walk_at "py"
    refine Op2.neD (place_ok _ _ _) (place_ok _ _ _) ?_
    rw [pl1_eqv]
    refine ⟨_, rfl, fun hb5 => ?_, fun hb5 => ?_⟩
    · have h3 : same3 rk s t = false := by simpa using hb5
      walk_at "py"
      refine Op2.gtT3 ?_
      rw [if_pos h3, gt3_succ]
      exact ⟨rfl, hko6⟩
    have h3 : same3 rk s t = true := by simpa using hb5
    rw [if_neg (by rw [h3]; simp)]
    obtain ⟨i, a, b, hd, ha, hb6⟩ := diffs_some (by simpa using hb2) h3
    rw [hd]
    simp only [ha, hb6]
    walk_at "py"
    refine WI.range2 (by decide) (by k_is) (by first | boot_by_name | rfl | kernel_rfl) (by decide) (by decide) (fun e => rfl) (fun e => rfl) (fun e => rfl) ?_
    walk_at "py"
    refine OpN.lenM ?_
    walk_at "py"
    have hks := kids_len s
    refine ⟨1, (kids s).length, by rw [Int.add_comm], by walk_at "om", by decide, by decide, trivial, by simp; omega, ?_⟩
    have hkl : (kids s).length = (kids t).length := by
      unfold same3 at h3
      simp only [Bool.and_eq_true, beq_iff_eq] at h3
      exact h3.2
    refine CT.inv (fun idx ρ' acc st' => (ρ' = [(Str.ofString "s", tm s), (Str.ofString "t", tm t)] ∨ ∃ a, ρ' = upd [(Str.ofString "s", tm s), (Str.ofString "t", tm t)] (Str.ofString "k") a) ∧ acc = (((List.range (kids s).length).take idx).filter fun i => decide ((kids s)[i]? ≠ (kids t)[i]?)).map (fun i => PV.int ((i + 1 : Nat) : Int)) ∧ KO [] st₆ st') ?_ ?_ _ 0 _ [] _ rfl (Nat.zero_le _) ⟨.inl rfl, by simp, KO.refl _ _⟩ trivial
    · rintro idx pv ρ'' acc st₇ hp ⟨hρ2, rfl, hko7⟩ hG
      rw [List.getElem?_map] at hp
      have hlt : idx < (kids s).length := by
        cases q : (List.range (kids s).length)[idx]? with
        | none => rw [q] at hp; cases hp
        | some j => simpa using (List.getElem?_eq_some_iff.mp q).1
      have hrg : (List.range (kids s).length)[idx]? = some idx := List.getElem?_range hlt
      rw [hrg] at hp
      obtain rfl : pv = .int ((idx + 1 : Nat) : Int) := by
        have := Option.some.inj hp
        rw [← this]
        show PV.int (1 + (idx : Int)) = _
        congr 1; omega
      have ka : (kids s)[idx]? = some (kids s)[idx] := List.getElem?_eq_getElem hlt
      have kb : (kids t)[idx]? = some ((kids t)[idx]'(by walk_at "om")) := List.getElem?_eq_getElem (by walk_at "om")
      have h1 := kids_ht (List.mem_of_getElem? ka)
      have h2 := kids_ht (List.mem_of_getElem? kb)
      refine AsgL.name (by decide) ?_
      have e : ∀ a, upd ρ'' (Str.ofString "k") a = upd [(Str.ofString "s", tm s), (Str.ofString "t", tm t)] (Str.ofString "k") a := by
        intro a; rcases hρ2 with rfl | ⟨_, rfl⟩ <;> rfl
      rw [e]
      have hsn : (((List.range (kids s).length).take (idx + 1)).filter fun i => decide ((kids s)[i]? ≠ (kids t)[i]?)).map (fun i => PV.int ((i + 1 : Nat) : Int)) = (((List.range (kids s).length).take idx).filter fun i => decide ((kids s)[i]? ≠ (kids t)[i]?)).map (fun i => PV.int ((i + 1 : Nat) : Int)) ++ (if decide ((kids s)[idx]? ≠ (kids t)[idx]?) = true then [PV.int ((idx + 1 : Nat) : Int)] else []) := by
        rw [List.take_add_one, hrg, List.filter_append, List.map_append]
        congr 1
        simp only [Option.toList, List.filter_cons, List.filter_nil]
        split <;> rfl
      show T C _ _ _ _ _ _
      walk_at "py"
      refine ItemOp.tmK ka ?_
      walk_at "py"
      refine ItemOp.tmK kb ?_
      refine Op2.neD (dtOk_of_keyOk _ _ (tm_key _ _ (by walk_at "om"))) (dtOk_of_keyOk _ _ (tm_key _ _ (by walk_at "om"))) ?_
      rw [tm_eqv]
      have hdec : (!decide ((kids s)[idx] = (kids t)[idx]'(by walk_at "om"))) = decide ((kids s)[idx]? ≠ (kids t)[idx]?) := by
        rw [ka, kb]
        by_cases q : (kids s)[idx] = (kids t)[idx]'(by walk_at "om")
        · rw [decide_eq_true q, decide_eq_false (by simp [q])]; rfl
        · rw [decide_eq_false q, decide_eq_true (by simpa using q)]; rfl
      rw [hdec]
      refine ⟨_, rfl, fun hc => ?_, fun hc => ?_⟩
      · walk_at "py"
        exact ⟨trivial, .inr ⟨_, by first | exact e _ | exact hρ' _ | rfl⟩, by rw [hsn, if_pos hc], hko7⟩
      · exact ⟨trivial, .inr ⟨_, by first | exact e _ | exact hρ' _ | rfl⟩, by rw [hsn, if_neg (by rw [hc]; simp), List.append_nil], hko7⟩
    rintro ρ5 acc st₇ ⟨_, rfl, hko7⟩
    rw [List.length_map, List.length_range, List.take_of_length_le (by simp)]
    walk_at "py"
    have hdl : ((List.range (kids s).length).filter fun i => decide ((kids s)[i]? ≠ (kids t)[i]?)) = diffs s t := rfl
    rw [hdl]
    obtain ⟨tl, htl⟩ : ∃ tl, diffs s t = i :: tl := by
      cases q : diffs s t with
      | nil => rw [q] at hd; cases hd
      | cons x tl => rw [q] at hd; cases hd; exact ⟨tl, rfl⟩
    rw [htl]
    refine ItemOp.list get_new (by decide) (p := .int ((i + 1 : Nat) : Int)) rfl ?_
    have hko8 := hko6.trans (hko7.trans (KO.app [] st₇ [PObj.list ((i :: tl).map (fun i => PV.int ((i + 1 : Nat) : Int)))]))
    walk_at "py"
    refine ItemOp.tmK ha ?_
    walk_at "py"
    refine ItemOp.tmK hb6 ?_
    walk_at "py"
    have hka := kids_ht (List.mem_of_getElem? ha)
    have hkb := kids_ht (List.mem_of_getElem? hb6)
    refine (ih a b _ (by walk_at "om") (by walk_at "om") (by walk_at "om") (hW.ko hko8 (by simp)) (hR.ko hko8 (by simp))).mono fun v st₉ hv => ?_
    exact ⟨hv.1, hko8.trans hv.2⟩
theorem store_keep {C : Ctx0} {n : Nat} {sc : Scope} {ρ : List (Str × PV)} {st : List PObj} {A : Around} {env : Env} {g : Fz} {ads : List Addr} {s : Shared} {x : Str} {v : Value} {p : PV} {R : Unit → Shared → Prop} {m : Str → Option Value} (z : At0 C n sc ρ st A env g ads s) (vr : VR g ads v p) (hk : sc.names.lookup x = some .local)
    (hn0 : s.heap.Ns env.locals m)
    (k : ∀ s', Nx [env.locals] g ads s.heap g ads s'.heap → Sim C.pw g ads st s'.heap → FrOk env (upd ρ x p) g ads s'.heap → s'.heap.Ns env.locals (fun y => if y = x then some v else m y) → s' = { s with heap := s'.heap, toks := s'.toks } → R () s') :
    wpAny (model C.prog C.w) A (storeName env x v) R No s := by
  obtain ⟨m', hn, hm⟩ := z.fr.ns
  have hmm : m' = m := by
    obtain ⟨o, es, ep, ho, hd, _, hf⟩ := hn
    obtain ⟨o2, es2, ep2, ho2, hd2, _, hf2⟩ := hn0
    rw [ho] at ho2; cases ho2
    rw [hd] at hd2; cases hd2
    funext y; rw [← hf y, ← hf2 y]
  subst hmm
  have hk' : env.kindOf x = some .local := (z.fr.kindOf z.sc x).trans hk
  refine wpAny_storeName_local hk' hn (fun h' hn' hs => ?_) (by rw [z.fr.kind]; rfl)
  have hl : (h'.get? env.locals).isSome = true := by obtain ⟨o, _, _, ho, _⟩ := hn'; rw [ho]; rfl
  obtain ⟨nx, sm⟩ := sameBut_nx z.sim z.fr.la z.fr.lg hs hl
  have ck : ∀ c v₀, c ≠ env.locals → s.heap.IsCell c v₀ → h'.IsCell c v₀ := fun c v₀ hc hv => hv.sameBut hs hc
  refine k _ nx sm ⟨z.fr.kind, z.fr.glob, z.fr.bi, z.fr.la, z.fr.lg, ⟨_, hn', fun y q hy hky => ?_⟩, fun y c hc => ?_, z.fr.cinj, fun y q hy hky => ?_, z.fr.cd, z.fr.cn⟩ hn' rfl
  · by_cases e : y = x
    · subst e
      rw [upd_self] at hy; cases hy
      exact ⟨v, by simp, vr⟩
    · rw [upd_ne _ _ _ _ e] at hy
      obtain ⟨v', hv', r⟩ := hm y q hy hky
      exact ⟨v', by rw [if_neg e]; exact hv', r⟩
  · obtain ⟨n1, n2, n3, v₀, hv⟩ := z.fr.cells y c hc
    exact ⟨n1, n2, n3, v₀, ck _ _ n1 hv⟩
  · have e : y ≠ x := fun e => by subst e; rw [hk'] at hky; rcases hky with h | h <;> cases h
    rw [upd_ne _ _ _ _ e] at hy
    obtain ⟨c, v', hc, hv, r⟩ := z.fr.cv y q hy hky
    exact ⟨c, v', hc, ck _ _ (z.fr.cells y c hc).1 hv, r⟩
theorem FrOk.sub {env : Env} {ρ ρ' : List (Str × PV)} {g : Fz} {ads : List Addr} {h : Heap} (F : FrOk env ρ g ads h) (k : ∀ y p, ρ'.lookup y = some p → ρ.lookup y = some p) : FrOk env ρ' g ads h := by
  obtain ⟨m, hn, hm⟩ := F.ns
  exact ⟨F.kind, F.glob, F.bi, F.la, F.lg, ⟨m, hn, fun y p hy hk => hm y p (k y p hy) hk⟩, F.cells, F.cinj, fun y p hy hk => F.cv y p (k y p hy) hk, F.cd, F.cn⟩
theorem Ns_keep {own : List Addr} {g g' : Fz} {ads ads' : List Addr} {h h' : Heap} {L : Addr} {m : Str → Option Value} (nx : Nx own g ads h g' ads' h') (la : L ∉ ads) (lo : L ∉ own) (hn : h.Ns L m) : h'.Ns L m := by
  obtain ⟨o, es, ep, ho, r⟩ := hn
  exact ⟨o, es, ep, nx.keep _ _ la lo ho, r⟩
inductive KeepAt (C : Ctx0) (n : Nat) (sc : Scope) (ρ : List (Str × PV)) (x : Str) (m : Str → Option Value) (A : Around) (env : Env) (g : Fz) (ads : List Addr) (s : Shared) (own : List Addr) (len : Nat) (St : Nat → Fz → List Addr → Heap → Prop) (K : List PObj → Prop) (k : Nat) (s' : Shared) : Prop
  | mk (g' : Fz) (ads' : List Addr) (st' : List PObj) (i : Nat) (m' : Str → Option Value) (hk : k = len + 1 - i) (hi : i ≤ len) (nx : Nx own g ads s.heap g' ads' s'.heap) (z : At0 C n sc ρ st' A env g' ads' s') (hst : St i g' ads' s'.heap) (q : K st') (hn : s'.heap.Ns env.locals m') (hm : ∀ y, y ≠ x → m' y = m y) (e : s' = { s with heap := s'.heap, toks := s'.toks })
inductive KeepEnd (C : Ctx0) (x : Str) (m : Str → Option Value) (env : Env) (g : Fz) (ads : List Addr) (s : Shared) (K : List PObj → Prop) (s' : Shared) : Prop
  | mk (g' : Fz) (ads' : List Addr) (st' : List PObj) (m' : Str → Option Value) (nx : Nx [env.locals] g ads s.heap g' ads' s'.heap) (sm : Sim C.pw g' ads' st' s'.heap) (q : K st') (hn : s'.heap.Ns env.locals m') (hm : ∀ y, y ≠ x → m' y = m y) (e : s' = { s with heap := s'.heap, toks := s'.toks })
/-- a loop whose body is one test that fails each time; the frame's other names stay -/
theorem for_keep {C : Ctx0} {n : Nat} {sc : Scope} {ρ : List (Str × PV)} {st : List PObj} {x : Str} {px pos pos' : Pos} {e test : Expr} {bad : List Stmt} {A : Around} {env : Env} {g : Fz} {ads : List Addr} {s : Shared} {m : Str → Option Value} {G₀ : List PObj → Prop}
    (hs : ∀ env x, foldedSetIterable e env x = pure x) (hx : ρ.lookup x = none) (hk : sc.names.lookup x = some .local)
    (h : WI C n sc (.Name x px) e ρ st (fun ps G st' => G st' ∧ G₀ st' ∧ ∀ p ∈ ps, ∀ st'', G st'' → G₀ st'' → T C n sc test (upd ρ x p) st'' (fun r st3 => r = false ∧ G st3 ∧ G₀ st3)))
    (z : At0 C n sc ρ st A env g ads s) (hn : s.heap.Ns env.locals m) :
    wpAny (model C.prog C.w) A (exec (.For (.Name x px) e [.If test bad [] pos'] [] pos) env) (fun fl s' => fl = .next ∧ KeepEnd C x m env g ads s G₀ s') No s := by
  refine wpAny_For (wpAny_mono (h A env g ads s z) (fun _ s₁ h₁ => wpAny_mono h₁ (fun it s₂ h₂ => ?_) fun a b f => f.elim) fun a b f => f.elim) (hs env)
  obtain ⟨I, own, St, ps, G, g₂, ads₂, st₂, rfl, wk, nx₂, sm₂, hst₂, fresh, ⟨hG, hG0, q⟩, e₂⟩ := h₂
  have hL : ∃ o, s.heap.get? env.locals = some o := by obtain ⟨o, _, _, ho, _⟩ := hn; exact ⟨o, ho⟩
  have lo : env.locals ∉ own := fun q => by obtain ⟨o, ho⟩ := hL; rw [fresh _ q] at ho; cases ho
  have apart : ∀ b ∈ own, b ∉ ownOf env := fun b hb hm => by
    obtain ⟨o, ho⟩ := z.fr.ownThere b hm
    rw [fresh b hb] at ho; cases ho
  have apartL : ∀ b ∈ own, b ∉ [env.locals] := fun b hb hm => lo (List.mem_singleton.mp hm ▸ hb)
  have toOwn : ∀ {g g' : Fz} {ads ads' : List Addr} {h h' : Heap} {o}, Nx o g ads h g' ads' h' → (∀ b ∈ o, b ∈ [env.locals] ∨ b ∈ own) → Nx ([env.locals] ++ own) g ads h g' ads' h' := fun x k => x.weaken fun a ha => .inl (List.mem_append.mpr (k a ha))
  refine codeAny_forLoop_any (KeepAt C n sc ρ x m A env g ads s ([env.locals] ++ own) ps.length St (fun st' => G st' ∧ G₀ st'))
    ?_ (ps.length + 1) ⟨g₂, ads₂, st₂, 0, m, rfl, Nat.zero_le _, toOwn nx₂ (fun _ h => by simp at h), z.step nx₂ (fun _ h => by simp at h) sm₂, hst₂, ⟨hG, hG0⟩, Ns_keep nx₂ z.fr.la (by simp) hn, fun e x => rfl, e₂⟩
  rintro k s' ⟨g', ads', st', i, m', hkk, hi, nx, z', hst, ⟨hG', hG0'⟩, hn', hm', e'⟩
  by_cases hlt : i < ps.length
  · refine wpAny_mono (wk.item (p := ps[i]) hst z'.base z'.sim hG' (List.getElem?_eq_getElem hlt)) (fun r s₁ hr => ?_) fun a b f => f.elim
    obtain ⟨v, rfl, hr⟩ := hr
    refine wpAny_mono hr (fun _ s₃ h₃ => ?_) fun a b f => f.elim
    obtain ⟨g₃, nx₃, sm₃, vr, hst₃, e₃⟩ := h₃
    have z₃ := z'.step nx₃ apart sm₃
    refine wpAny_assign_Name (wpAny_mono (store_keep (R := (fun (_ : Unit) (s₄ : Shared) => Nx [env.locals] g₃ ads' s₃.heap g₃ ads' s₄.heap ∧ Sim C.pw g₃ ads' st' s₄.heap ∧ FrOk env (upd ρ x ps[i]) g₃ ads' s₄.heap ∧ s₄.heap.Ns env.locals (fun y => if y = x then some v else m' y) ∧ s₄ = { s₃ with heap := s₄.heap, toks := s₄.toks })) z₃ vr hk (Ns_keep nx₃ z'.fr.la lo hn') fun s₄ nx₄ sm₄ fr₄ hn₄ e₄ => ⟨nx₄, sm₄, fr₄, hn₄, e₄⟩) (fun _ s₄ h₄ => ?_) fun a b f => f.elim)
    obtain ⟨nx₄, sm₄, fr₄, hn₄, e₄⟩ := h₄
    have z₄ : At0 C n sc (upd ρ x ps[i]) st' A env g₃ ads' s₄ := ⟨z'.a, z'.sc, fun b o e => nx₄.gsub _ _ (z₃.base _ _ e), fr₄, sm₄⟩
    have hst₄ := wk.frame hst₃ nx₄ apartL
    have nx34 := (nx.trans (toOwn nx₃ fun _ h => .inr h)).trans (toOwn nx₄ fun _ h => .inl h)
    have e45 : s₄ = { s with heap := s₄.heap, toks := s₄.toks } := by rw [e₄, e₃, e']
    refine wpAny_execs_cons (wpAny_If (wpAny_mono (T.run (R := fun c s₅ => c = false ∧ ∃ g₅ ads₅ st₅, At0 C n sc (upd ρ x ps[i]) st₅ A env g₅ ads₅ s₅ ∧ Nx [] g₃ ads' s₄.heap g₅ ads₅ s₅.heap ∧ s₅ = { s₄ with heap := s₅.heap, toks := s₅.toks } ∧ G st₅ ∧ G₀ st₅) (q _ (List.getElem_mem hlt) _ hG' hG0') z₄ fun c s₅ g₅ ads₅ st₅ z₅ nx₅ e₅ q₅ => ⟨q₅.1, g₅, ads₅, st₅, z₅, nx₅, e₅, q₅.2⟩) (fun c s₅ h₅ => ?_) fun a b f => f.elim))
    obtain ⟨rfl, g₅, ads₅, st₅, z₅, nx₅, e₅, hG₅, hG0₅⟩ := h₅
    refine wpAny_execs_nil (wpAny_execs_nil ?_)
    refine ⟨ps.length + 1 - (i + 1), by walk_at "om", g₅, ads₅, st₅, i + 1, _, rfl, hlt, nx34.trans (toOwn nx₅ fun _ h => by simp at h), ⟨z'.a, z'.sc, z₅.base, z₅.fr.sub fun y p hy => ?_, z₅.sim⟩, wk.frame hst₄ nx₅ (fun _ _ h => by simp at h), ⟨hG₅, hG0₅⟩, Ns_keep nx₅ z₄.fr.la (by simp) hn₄, fun y hy => ?_, by rw [e₅, e45]⟩
    · by_cases e : y = x
      · subst e; rw [hx] at hy; cases hy
      · rw [upd_ne _ _ _ _ e]; exact hy
    · show (if y = x then some v else m' y) = m y
      rw [if_neg hy]; exact hm' y hy
  · have hi' : i = ps.length := by walk_at "om"
    subst hi'
    refine wpAny_mono (wk.done hst z'.sim hG') (fun r s₁ hr => ?_) fun a b f => f.elim
    obtain ⟨rfl, ext, e₁⟩ := hr
    refine wpAny_execs_nil ⟨rfl, ?_⟩
    have lv := wk.live hst
    have sm₁ : Sim C.pw g' ads' st' s₁.heap := z'.sim.ext fun b o hb e => ext b o (fun hm => by
      obtain ⟨m1, m2, _⟩ := lv b hm
      rcases hb with hb | hb
      · exact m1 hb
      · exact hb m2) e
    obtain ⟨oL, es, ep, hL', r⟩ := hn'
    exact ⟨g', ads', st', m', nx.finish fresh ext, sm₁, hG0', ⟨oL, es, ep, ext _ _ lo hL', r⟩, hm', by rw [e₁, e']⟩
noncomputable def allBut (h : Heap) (l : List Addr) : List (Addr × Obj) := (List.range h.objs.size).filterMap fun b => if l.contains b then none else (h.get? b).map (b, ·)
theorem allBut_spec {h : Heap} {l : List Addr} {p : Addr × Obj} : p ∈ allBut h l ↔ h.get? p.1 = some p.2 ∧ p.1 ∉ l := by
  unfold allBut
  rw [List.mem_filterMap]
  constructor
  · rintro ⟨b, _, hb⟩
    by_cases hc : l.contains b = true
    · rw [if_pos hc] at hb; cases hb
    · rw [if_neg hc] at hb
      cases e : h.get? b with
      | none => rw [e] at hb; cases hb
      | some o =>
        rw [e] at hb
        cases hb
        exact ⟨e, fun q => hc (List.contains_iff_mem.mpr q)⟩
  · rintro ⟨e, n⟩
    refine ⟨p.1, List.mem_range.mpr (Heap.lt_size e), ?_⟩
    rw [if_neg (fun q => n (List.contains_iff_mem.mp q)), e]
    rfl
/-- a name of an object's own dict is set -/
theorem set_inst {prog : Program} {w : World} {A : Around} {E : Value → Shared → Prop} {s : Shared} {K : Frag} {x dx C L : Addr} {m : Str → Option Value} {es es' : List DictEntry} {n n' : Nat} {name : Str} {v : Value} {Q : Unit → Shared → Prop}
    (X : K.In s.heap) (hn : s.heap.Ns L m) (gx : s.heap.get? x = some (instObj C dx)) (gd : s.heap.get? dx = some (dictOf es n)) (ne : dx ≠ L)
    (hs : findIn K (.ref C) "__setattr__" = some (some (.builtin "object.__setattr__"))) (hp : plainOver K C = true) (ht : takerIn K C name = some none) (hh : hasDictIn K C = true) (hl : (getL name es).isSome = true)
    (e : (putL name (PyData.keyHash w.params name) (.str name (s.toks + 1)) v es, putN name es n) = (es', n')) (hz : es'.length ≤ 1000)
    (h : ∀ h', (∀ b o, b ≠ L → b ≠ dx → s.heap.get? b = some o → h'.get? b = some o) → h'.get? dx = some (dictOf es' n') → (∃ o, h'.get? L = some o) → Q () { s with heap := h', toks := s.toks + 2 }) :
    wpAny (model prog w) A (setAttr (.ref x) name v) Q E s := by
  obtain ⟨e1, e2⟩ := Prod.mk.inj e
  have I : InstAt s.heap x (instObj C dx) C (some (dictOf es n)) := ⟨gx, rfl, rfl, gd⟩
  have F : Fr {} L s.heap m := ⟨hn, fun b o e => by
    have := Heap.lt_size e
    simp at this, Nat.zero_le _⟩
  have none : ∀ b, ({} : Heap).get? b = none := fun b => by
    cases q : ({} : Heap).get? b with
    | none => rfl
    | some o => have := Heap.lt_size q; simp at this
  have N : News {} L s.heap ([] ++ (dx, dictOf es n) :: allBut s.heap [L, dx]) := by
    intro p hp
    rcases List.mem_cons.mp hp with rfl | hp
    · exact ⟨gd, ne, none _⟩
    · obtain ⟨a, b⟩ := allBut_spec.mp hp
      exact ⟨a, fun q => b (by rw [q]; simp), none _⟩
  refine set_plain X I hs (osa_dict (s := { s with toks := s.toks + 1 }) F N X I rfl hp ht hh hl (fun p hp => by cases hp) (fun p hp => fun q => (allBut_spec.mp hp).2 (by rw [q]; simp)) (by rw [putName_dict, e1, e2]) rfl hz fun h' F' N' => h h' (fun b o b1 b2 eb => ?_) ?_ ?_)
  · exact (N' (b, o) (List.mem_cons_of_mem _ (allBut_spec.mpr ⟨eb, by simp [b1, b2]⟩))).1
  · exact (N' (dx, dictOf es' n') (by simp)).1
  · obtain ⟨o, _, _, ho, _⟩ := F'.ns; exact ⟨o, ho⟩
section
variable {prog : Program} {w : World} {mean : ExcName → Option Value} {mg mb : Str → Option Value} {A : Around} {s : Shared} {hb : Heap} {R : Result → Shared → Prop} {news : List (Addr × Obj)}
  {name qual : Str} {params : Arguments} {body : List Stmt} {scope : Scope} {dV kV doc pm cdv ct oc : Value} {an od : Option Addr} {osl : Array (Option Value)} {f cc : Addr} {args : List Value} {binds : List (Str × Value)}
/-- entering a def that closes over its class, with objects of late date beside -/
theorem enterS (B : Bs w mean mg mb hb) (keep : ∀ b o, hb.get? b = some o → s.heap.get? b = some o) (sz : hb.objs.size ≤ s.heap.objs.size) (N : ∀ p ∈ news, s.heap.get? p.1 = some p.2 ∧ hb.get? p.1 = none)
    (hroom : A.depth < recursionLimit)
    (ho : (hd.heap_1 w.params).lookup f = some ⟨oc, od, .func (ksFn name qual params body scope dV kV doc pm an cdv ct cc), osl⟩) (hcd : codeIn (hd.heap_1 w.params) cdv qual = true)
    (hbind : BindsTo s (ksFn name qual params body scope dV kV doc pm an cdv ct cc) ⟨args, []⟩ binds) (hloc : ∀ y ∈ binds, scope.names.lookup y.1 = some .local)
    (h : ∀ L' h₁, Fr hb L' h₁ (fun y => binds.reverse.lookup y) → News hb L' h₁ news → (∀ p ∈ news, p.1 < L') →
      PySem.wpAt (model prog w) (A.deeper (ksEnv qual scope L' f cdv cc)) (.func body (ksEnv qual scope L' f cdv cc)) (execs body (ksEnv qual scope L' f cdv cc))
        (fun fl s' => R (.ok (.ret (match fl with | .ret v => v | _ => .none))) s') (fun _ _ => False) { s with heap := h₁, toks := s.toks + binds.length })
    (hcell : ∀ x ∈ scope.names, x.2 ≠ .cell := by decide) (hco : scope.isCoroutine = false := by rfl) (hgen : scope.isGenerator = false := by rfl) (hk : scope.kind = .function := by rfl) : codeAny (model prog w) A (.call (.ref f) ⟨args, []⟩) R s := by
  have B' := B.mono keep
  refine ks_codeAny_call_defAt (fd := ksFn name qual params body scope dV kV doc pm an cdv ct cc) (body := body) (binds := binds) hroom (B'.X _ _ ho) rfl B'.T.nolimit (codeRec_of B'.X hcd) rfl hbind hcell hloc (fun h₁ hns hk₁ => ?_) hco hgen hk
  refine ks_wpAt_mono (h _ h₁ ⟨hns, fun b o e => hk₁ b o (keep b o e), sz⟩ (fun p hp => ⟨hk₁ _ _ (N p hp).1, Nat.ne_of_lt (Heap.lt_size (N p hp).1), (N p hp).2⟩) (fun p hp => Heap.lt_size (N p hp).1)) (fun fl s' hl => hl) fun a b y => y.elim
theorem enterP (B : Bs w mean mg mb hb) (keep : ∀ b o, hb.get? b = some o → s.heap.get? b = some o) (sz : hb.objs.size ≤ s.heap.objs.size) (N : ∀ p ∈ news, s.heap.get? p.1 = some p.2 ∧ hb.get? p.1 = none)
    (hroom : A.depth < recursionLimit)
    (ho : (hd.heap_1 w.params).lookup f = some ⟨oc, od, .func (fnOf name qual params body scope dV kV doc pm an cdv ct), osl⟩) (hcd : codeIn (hd.heap_1 w.params) cdv qual = true)
    (hbind : BindsTo s (fnOf name qual params body scope dV kV doc pm an cdv ct) ⟨args, []⟩ binds) (hloc : ∀ y ∈ binds, scope.names.lookup y.1 = some .local)
    (h : ∀ L' h₁, Fr hb L' h₁ (fun y => binds.reverse.lookup y) → News hb L' h₁ news → (∀ p ∈ news, p.1 < L') →
      wpAny (model prog w) (A.deeper (envOf qual scope L' f cdv)) (execs body (envOf qual scope L' f cdv))
        (fun fl s' => R (.ok (.ret (match fl with | .ret v => v | _ => .none))) s') (fun _ _ => False) { s with heap := h₁, toks := s.toks + binds.length })
    (hcell : ∀ x ∈ scope.names, x.2 ≠ .cell := by decide) (hco : scope.isCoroutine = false := by rfl) (hgen : scope.isGenerator = false := by rfl) (hk : scope.kind = .function := by rfl) : codeAny (model prog w) A (.call (.ref f) ⟨args, []⟩) R s := by
  have B' := B.mono keep
  refine codeAny_call_def (fd := fnOf name qual params body scope dV kV doc pm an cdv ct) (body := body) (binds := binds) hroom (B'.X _ _ ho) rfl B'.T.nolimit (codeRec_of B'.X hcd) rfl hbind hcell hloc (fun h₁ hns hk₁ => ?_) hco hgen hk
  refine wpAny_mono (h _ h₁ ⟨hns, fun b o e => hk₁ b o (keep b o e), sz⟩ (fun p hp => ⟨hk₁ _ _ (N p hp).1, Nat.ne_of_lt (Heap.lt_size (N p hp).1), (N p hp).2⟩) (fun p hp => Heap.lt_size (N p hp).1)) (fun fl s' hl => hl) fun a b y => y.elim
end
theorem fin_inst {P : PW} {g g₃ : Fz} {ads ads₃ : List Addr} {st₃ : List PObj} {h₀ h₃ h₈ : Heap} {x dx L : Addr} {ox od : Obj} (nx : Nx [L] g ads h₀ g₃ ads₃ h₃) (z : Sim P g₃ ads₃ st₃ h₃) (fx : h₀.get? x = none) (fdx : h₀.get? dx = none) (fL : h₀.get? L = none)
    (xA : x ∉ ads₃) (dA : dx ∉ ads₃) (LA : L ∉ ads₃) (xG : g₃ x = none) (dG : g₃ dx = none) (LG : g₃ L = none) (k : ∀ b o, b ≠ L → b ≠ dx → h₃.get? b = some o → h₈.get? b = some o) (hx : h₈.get? x = some ox) (hd : h₈.get? dx = some od) (hL : ∃ o, h₈.get? L = some o) (ne : x ≠ dx) :
    ∃ gF : Fz, gF x = some ox ∧ gF dx = some od ∧ (∀ a o, g₃ a = some o → gF a = some o) ∧ Nx [] g ads h₀ gF ads₃ h₈ ∧ Sim P gF ads₃ st₃ h₈ := by
  refine ⟨fun a => if a = x then some ox else if a = dx then some od else g₃ a, if_pos rfl, ?_, ?_, ⟨?_, nx.asub, ?_, ?_, nx.anew, ?_⟩, ⟨?_, z.nd, ?_, z.hi, z.len, ?_⟩⟩
  · show (if dx = x then some ox else if dx = dx then some od else g₃ dx) = some od
    rw [if_neg (Ne.symm ne), if_pos rfl]
  · intro a o e
    show (if a = x then some ox else if a = dx then some od else g₃ a) = some o
    rw [if_neg (fun q => by rw [q, xG] at e; cases e), if_neg (fun q => by rw [q, dG] at e; cases e)]; exact e
  · intro a o e
    have e := nx.gsub _ _ e
    show (if a = x then some ox else if a = dx then some od else g₃ a) = some o
    rw [if_neg (fun q => by rw [q, xG] at e; cases e), if_neg (fun q => by rw [q, dG] at e; cases e)]; exact e
  · intro b o n1 _ e
    have bL : b ≠ L := fun q => by rw [q, fL] at e; cases e
    exact k b o bL (fun q => by rw [q, fdx] at e; cases e) (nx.keep b o n1 (fun q => bL (List.mem_singleton.mp q)) e)
  · intro a n o e
    by_cases q : a = x
    · rw [q]; exact fx
    · by_cases q' : a = dx
      · rw [q']; exact fdx
      · refine nx.gnew a n o ?_
        have e : (if a = x then some ox else if a = dx then some od else g₃ a) = some o := e
        rw [if_neg q, if_neg q'] at e; exact e
  · intro b e
    obtain ⟨o, e⟩ := Option.isSome_iff_exists.mp (nx.dom b e)
    by_cases q : b = L
    · obtain ⟨o, ho⟩ := hL; rw [q, ho]; rfl
    · by_cases q' : b = dx
      · rw [q', hd]; rfl
      · rw [k b o q q' e]; rfl
  · intro a o e
    have e : (if a = x then some ox else if a = dx then some od else g₃ a) = some o := e
    by_cases q : a = x
    · rw [if_pos q] at e; rw [q]; exact hx.trans e
    · by_cases q' : a = dx
      · rw [if_neg q, if_pos q'] at e; rw [q']; exact hd.trans e
      · rw [if_neg q, if_neg q'] at e
        exact k a o (fun r => by rw [r, LG] at e; cases e) q' (z.gh _ _ e)
  · intro a ha
    show (if a = x then some ox else if a = dx then some od else g₃ a) = none
    rw [if_neg (fun (q : a = x) => xA (q ▸ ha)), if_neg (fun (q : a = dx) => dA (q ▸ ha))]; exact z.ag a ha
  · intro n a po ha hp
    have hm := List.mem_of_getElem? ha
    refine (z.ob n a po ha hp).mono (fun b o e => ?_) (fun a b e => e) fun o e => k a o (fun (q : a = L) => LA (q ▸ hm)) (fun (q : a = dx) => dA (q ▸ hm)) e
    show (if b = x then some ox else if b = dx then some od else g₃ b) = some o
    rw [if_neg (fun q => by rw [q, xG] at e; cases e), if_neg (fun q => by rw [q, dG] at e; cases e)]; exact e
theorem tab_pos {wt : Tab} (hpos : ∀ x ∈ wt, 1 ≤ x.2) {k : Str} (hk : k ∈ (tabPV wt).map (·.1)) : ∃ i : Int, (tabPV wt).lookup k = some (.int i) ∧ 1 ≤ i := by
  induction wt with
  | nil => cases hk
  | cons x r ih =>
    obtain ⟨y, i⟩ := x
    have e : tabPV ((y, i) :: r) = (y, .int i) :: tabPV r := rfl
    rw [e] at hk ⊢
    rw [List.lookup_cons]
    split
    · exact ⟨i, rfl, hpos _ (List.mem_cons_self ..)⟩
    · rename_i c
      refine ih (fun x hx => hpos x (List.mem_cons_of_mem _ hx)) ?_
      rcases List.mem_cons.mp hk with q | q
      · exfalso; simp at c; exact c q
      · exact q
theorem make_spec {C : Ctx0} {n : Nat} {st : List PObj} {wi ri : Nat} {wt : Tab} (hw : TabAt' st wi wt) (hpos : ∀ x ∈ wt, 1 ≤ x.2) (hlen : wt.length < 64) (pf : ((C.prog.main.file : Str) == "/claim/cut.py") = true) (ps : (C.prog.main.scope.names.lookup ("super" : Str)).isSome = false) :
    CF C (n + 3) 150 [.loc wi, .loc ri] st (fun v st' => ∃ kn, v = selfPV ri kn wi ∧ st'[kn]? = some (.td []) ∧ KO [] st st' ∧ st.length ≤ kn) := by
  intro A g ads s vs hA base z vrs
  have Bs0 : Bs C.w C.mean C.mg C.mb s.heap := C.B.mono fun b o e => z.gh _ _ (base _ _ e)
  have X := Bs0.X
  have T := Bs0.T
  have hh := hA.hh
  cases vrs with
  | @cons vw _ _ _ hvw r => cases r with
    | @cons vr _ _ _ hvr r =>
      cases r
      refine wpAny_call ?_
      obtain ⟨hp, gg, dd, tt, os⟩ := s
      refine make_core (makes_of X (by k_is)) (looks_findIn X (by k_is)) (fun self => bind_fn X self (by k_is)) (.inl rfl) ?_
      have hz : (hp.push emptyDict).objs.size = hp.objs.size + 1 := Heap.size_push ..
      have g1 : ((hp.push emptyDict).push (instObj 150 hp.objs.size)).get? (hp.objs.size + 1) = some (instObj 150 hp.objs.size) := by rw [← hz]; exact Heap.get?_push_size _ rfl
      have g2 : ((hp.push emptyDict).push (instObj 150 hp.objs.size)).get? hp.objs.size = some (dictOf [] 0) := Heap.get?_push_of_some _ (Heap.get?_push_size _ rfl)
      have g3 : hp.get? (hp.objs.size + 1) = none := fresh_get (Nat.le_succ _)
      have g4 : hp.get? hp.objs.size = none := fresh_none
      have hwt : (Code.builtin "type.__call__" { pos := [Value.ref 150, vw, vr] }).weight = 1 := by first | rfl | kernel_rfl
      have hcu : (Code.builtin "type.__call__" { pos := [Value.ref 150, vw, vr] }).cUnits = 1 := by first | rfl | kernel_rfl
      refine enterS (hb := hp) (binds := [(Str.ofString "self", .ref (hp.objs.size + 1)), (Str.ofString "weights", vw), (Str.ofString "ranks", vr)]) (news := [(hp.objs.size + 1, instObj 150 hp.objs.size), (hp.objs.size, dictOf [] 0)]) Bs0 (fun b o e => Heap.get?_push_of_some _ (Heap.get?_push_of_some _ e)) ?_ ?_ ?_ (by k_is) (by k_is) (BindsTo.of_eq rfl) (locs rfl) ?_
      · show hp.objs.size ≤ ((hp.push emptyDict).push (instObj 150 hp.objs.size)).objs.size
        rw [Heap.size_push, Heap.size_push]; exact Nat.le_trans (Nat.le_succ _) (Nat.le_succ _)
      · intro p hp'
        rcases List.mem_cons.mp hp' with rfl | hp'
        · exact ⟨g1, g3⟩
        · rw [List.mem_singleton.mp hp']; exact ⟨g2, g4⟩
      · show A.depth + _ < recursionLimit
        have := hA.dp; omega
      · intro L h₁ F N l1
        have X0 : (hd.heap_1 C.w.params).In hp := X
        have T0 : Top lawView (looseW lawView []) C.mean C.mg C.mb hp := T
        clear X T g1 g2 hz
        dsimp only
        k_steps
        have I1 : InstAt h₁ (hp.objs.size + 1) (instObj 150 hp.objs.size) 150 (some (dictOf [] 0)) := ⟨(N _ (List.mem_cons_self ..)).1, rfl, rfl, (N (hp.objs.size, dictOf [] 0) (List.mem_cons_of_mem _ (List.mem_singleton_self _))).1⟩
        refine ks_node (x := hp.objs.size + 1) F X0 N T0 (by k_is) (by rfl) (by rfl) I1 (by k_is) (by rfl) pf (by k_is) (by k_is) (by k_is) (by k_is) (by decide) (by rfl) (by rfl) (by rfl) (by rfl) ps (by first | boot_by_name | rfl | kernel_rfl) ?_
        intro so h2 F2 N2 l2
        clear F N I1
        k_steps
        rename_i q h3 F3 N3 l3
        refine call_meth (pos := [vr]) N3 (List.mem_cons_self ..) ?_
        obtain ⟨oL, es, ep, eL, rL⟩ := F3.ns
        have hL : hp.get? L = none := by
          cases z : hp.get? L with
          | none => rfl
          | some o => exact absurd (Heap.lt_size z) (Nat.not_lt.mpr F3.above)
        have hLs : (∀ p ∈ [(L, oL), (hp.objs.size + 1, instObj 150 hp.objs.size), (hp.objs.size, dictOf [] 0)], h3.get? p.1 = some p.2 ∧ hp.get? p.1 = none) := by
          intro p hp'
          rcases List.mem_cons.mp hp' with rfl | hp'
          · exact ⟨eL, hL⟩
          · have := N3 p (List.mem_cons_of_mem _ (List.mem_cons_of_mem _ hp'))
            exact ⟨this.1, this.2.2⟩
        refine enterP (binds := [(Str.ofString "self", .ref (hp.objs.size + 1)), (Str.ofString "ranks", vr)]) (news := [(L, oL), (hp.objs.size + 1, instObj 150 hp.objs.size), (hp.objs.size, dictOf [] 0)]) Bs0 F3.keep (Nat.le_of_lt (Nat.lt_of_le_of_lt F3.above (Heap.lt_size eL))) hLs ?_ (by k_is) (by k_is) (BindsTo.of_eq rfl) (locs rfl) ?_
        · show A.depth + _ + 1 < recursionLimit
          have := hA.dp; omega
        · intro L4 h4 F4 N4 l4
          have l5 : hp.objs.size + 1 < L := l1 _ (List.mem_cons_self ..)
          clear N2 N3 F2 F3 hLs eL
          dsimp only
          k_steps
          rename_i h5 F5 N5 d6 h6 o6 lo6 hs6 fs6 hi6 fi6 l6 h7 F7 N7
          clear F5 N5
          have hd6 : hp.get? d6 = none := (N7 (d6, o6) (List.mem_cons_self ..)).2.2
          have z7 : Sim C.pw g ads st h7 := z.ext fun b o _ e => F7.keep b o e
          obtain ⟨es6, ep6, ex6, da6, _, pr6, _⟩ := hs6
          have e6 : es6.toList = [] := by cases q : es6.toList with
            | nil => rfl
            | cons a r => rw [q] at pr6; cases pr6
          have lo : mainGlobals < hp.objs.size := lo_of base z
          have T7 : Sim C.pw g (ads ++ [d6]) (st ++ [.td []]) h7 := adoptO z7 (z.ads_fresh hd6) (z.gfresh hd6) (Nat.lt_trans lo l6.2.2) (.td (xs := []) (N7 (d6, o6) (List.mem_cons_self ..)).1 ex6 da6 e6 List.nodup_nil .nil)
          have nx7 : Nx [] g ads hp g (ads ++ [d6]) h7 := ⟨fun a b e => e, ⟨[d6], rfl⟩, fun b o _ _ e => F7.keep b o e, fun a n o e => (by rw [n] at e; cases e), fun a m n => (by
            rcases List.mem_append.mp m with m | m
            · exact absurd m n
            · rw [List.mem_singleton.mp m]; exact hd6), fun b e => (by
            obtain ⟨o, ho⟩ := Option.isSome_iff_exists.mp e
            rw [F7.keep _ _ ho]; rfl)⟩
          have gL7 : h7.get? L = some oL := (N7 (L, oL) (List.mem_cons_of_mem _ (List.mem_cons_self ..))).1
          have hn7 : h7.Ns L _ := ⟨oL, es, ep, gL7, rL⟩
          have LA : L ∉ ads ++ [d6] := fun q => (List.mem_append.mp q).elim (z.ads_fresh hL) fun q => Nat.ne_of_lt l6.1 (List.mem_singleton.mp q)
          have g125 : ∃ v, C.h₀.get? 125 = some v ∧ ∃ q, v.data = .cell q := ⟨_, C.B.X 125 _ (by k_is), _, rfl⟩
          obtain ⟨o125, g125, q125, d125⟩ := g125
          refine wpAny_mono (for_keep (C := C) (n := n) (g := g) (ads := ads ++ [d6]) (ρ := [(Str.ofString "weights", .loc wi)]) (G₀ := fun st' => TabAt' st' wi wt ∧ st'[st.length]? = some (.td []) ∧ KO [] st st') (fun e x => rfl) rfl (by rfl) ?WI ⟨?aok, rfl, base, ?fr, T7⟩ hn7) (fun fl s' hfl => ?rest) (fun a b f => f.elim)
          case aok => exact ⟨hh, by show A.depth + _ + 1 + n < _; have := hA.dp; omega, by show A.units + _ + 3 + 8 * n + 300 < _; have := hA.un; omega⟩
          case fr =>
            refine ⟨rfl, rfl, rfl, LA, z.gfresh hL, ⟨_, hn7, fun y p hy hk => ?_⟩, fun y c hc => ?_, fun y y' c hc hc' => ?_, fun y p hy hk => ?_, fun y hy => ?_, ?_⟩
            · rw [List.lookup_cons] at hy
              split at hy
              · rename_i e; cases hy
                have := eq_of_beq e; subst this
                exact ⟨vw, rfl, hvw.mono nx7.gsub nx7.idx⟩
              · cases hy
            · change List.lookup y [(Str.ofString "__class__", 125)] = some c at hc
              rw [List.lookup_cons] at hc
              split at hc
              · rename_i e; cases hc
                have := eq_of_beq e; subst this
                have h125 : hp.get? 125 = some o125 := z.gh _ _ (base _ _ g125)
                refine ⟨fun q => ?_, fun q => ?_, fun q => absurd rfl q, q125, o125, F7.keep _ _ h125, d125⟩
                · rw [q] at h125; exact absurd h125 (by rw [show hp.get? _ = none from hL]; simp)
                · rcases List.mem_append.mp q with q | q
                  · have := z.ag _ q; rw [base _ _ g125] at this; cases this
                  · rw [List.mem_singleton.mp q, hd6] at h125; cases h125
              · cases hc
            · change List.lookup y [(Str.ofString "__class__", 125)] = some c at hc
              change List.lookup y' [(Str.ofString "__class__", 125)] = some c at hc'
              have one : ∀ {l : List (Str × Addr)} {u : Str}, l = [(Str.ofString "__class__", 125)] → l.lookup u = some c → u = Str.ofString "__class__" := by
                rintro _ u rfl hu
                rw [List.lookup_cons] at hu
                split at hu
                · rename_i e; exact eq_of_beq e
                · cases hu
              rw [one rfl hc, one rfl hc']
            · rw [List.lookup_cons] at hy
              split at hy
              · rename_i e; cases hy
                have := eq_of_beq e; subst this
                have hk1 : (some NameKind.local = some NameKind.cell) ∨ (some NameKind.local = some NameKind.free) := hk
                rcases hk1 with hk | hk <;> cases hk
              · cases hy
            · exfalso
              have := lookup_mem hy
              revert this
              simp
            · simp [List.nodup_cons]
          case WI =>
            refine WI.list ?_
            dsimp only
            obtain ⟨epw, hw⟩ := hw
            have hwi : (st ++ [PObj.td []])[wi]? = some (.sd (tabPV wt) epw) := by
              obtain ⟨hl, _⟩ := List.getElem?_eq_some_iff.mp hw
              rw [List.getElem?_append_left hl]; exact hw
            walk_at "py"
            refine OpN.sortedD hwi (by simpa [tabPV] using hlen) fun ss hp => ⟨_, _, rfl, List.getElem?_concat_length .., List.getElem?_concat_length .., ⟨⟨epw, ?_⟩, ?_, ?_⟩, fun p hp2 st'' h1 h2 => ?_⟩
            · rw [List.getElem?_append_left (List.getElem?_eq_some_iff.mp hwi).1]; exact hwi
            · rw [List.getElem?_append_left (by simp)]; exact List.getElem?_concat_length ..
            · exact (KO.app _ _ _).trans (KO.app _ _ _)
            · obtain ⟨k, hk, rfl⟩ := List.mem_map.mp hp2
              obtain ⟨⟨ep2, hw2⟩, h22⟩ := h2
              obtain ⟨i, hi, h1i⟩ := tab_pos hpos (hp.mem_iff.mp hk)
              walk_at "py"
              refine ItemOp.sd hw2 hi ?_
              walk_at "py"
              exact ⟨_, rfl, decide_eq_false (by walk_at "om"), h1, ⟨ep2, hw2⟩, h22⟩
          case rest =>
            obtain ⟨rfl, g₃, ads₃, st₃, m₃, nx₃, sm₃, ⟨tw₃, tk₃, ko₃⟩, hn₃, hm₃, e₃⟩ := hfl
            dsimp only
            k_steps
            have LA3 : L ∉ ads₃ ∧ g₃ L = none := nx₃.off LA (z.gfresh hL) gL7
            have gx3 : s'.heap.get? (hp.objs.size + 1) = some (instObj 150 hp.objs.size) := nx₃.keep _ _ (fun q => (List.mem_append.mp q).elim (z.ads_fresh g3) fun q => Nat.ne_of_lt l6.2.1 (List.mem_singleton.mp q)) (fun q => Nat.ne_of_lt l5 (List.mem_singleton.mp q)) (N7 (hp.objs.size + 1, _) (List.mem_cons_of_mem _ (List.mem_cons_of_mem _ (List.mem_cons_self ..)))).1
            have gd3 := nx₃.keep _ _ (fun q => (List.mem_append.mp q).elim (z.ads_fresh g4) fun q => Nat.ne_of_lt l6.2.2 (List.mem_singleton.mp q)) (fun q => Nat.ne_of_lt (Nat.lt_of_succ_lt l5) (List.mem_singleton.mp q)) (N7 (hp.objs.size, _) (List.mem_cons_of_mem _ (List.mem_cons_of_mem _ (List.mem_cons_of_mem _ (List.mem_cons_self ..))))).1
            have B3 : Bs C.w C.mean C.mg C.mb s'.heap := C.B.mono fun b o e => sm₃.gh _ _ (nx₃.gsub _ _ (base _ _ e))
            have mw : m₃ (Str.ofString "weights") = some vw := (hm₃ _ (by decide)).trans rfl
            have ms : m₃ (Str.ofString "self") = some (.ref (hp.objs.size + 1)) := (hm₃ _ (by decide)).trans rfl
            refine wpAny_Name (wpAny_loadName_local rfl rfl hn₃ mw ?_) (by decide)
            refine wpAny_Name (wpAny_loadName_local rfl rfl hn₃ ms ?_) (by decide)
            refine set_inst B3.X hn₃ gx3 gd3 (Nat.ne_of_lt (Nat.lt_of_succ_lt l5)) (by k_is) (by k_is) (by k_is) (by k_is) (by k_get) (by k_put) (by exact Nat.le_of_ble_eq_true rfl) fun h8 k8 gd8 gL8 => ?_
            k_steps
            have f8 : ∀ a : Addr, hp.get? a = none → a ∉ ads := fun a ha => z.ads_fresh ha
            have gx7 := (N7 (hp.objs.size + 1, _) (List.mem_cons_of_mem _ (List.mem_cons_of_mem _ (List.mem_cons_self ..)))).1
            have gd7 := (N7 (hp.objs.size, _) (List.mem_cons_of_mem _ (List.mem_cons_of_mem _ (List.mem_cons_of_mem _ (List.mem_cons_self ..))))).1
            have xo := nx₃.off (fun q => (List.mem_append.mp q).elim (z.ads_fresh g3) fun q => Nat.ne_of_lt l6.2.1 (List.mem_singleton.mp q)) (z.gfresh g3) gx7
            have dxo := nx₃.off (fun q => (List.mem_append.mp q).elim (z.ads_fresh g4) fun q => Nat.ne_of_lt l6.2.2 (List.mem_singleton.mp q)) (z.gfresh g4) gd7
            obtain ⟨gF, gFx, gFd, gFs, nxF, smF⟩ := fin_inst (nx7.any.trans nx₃) sm₃ g3 g4 hL xo.1 dxo.1 LA3.1 xo.2 dxo.2 LA3.2 k8 (k8 _ _ (Nat.ne_of_lt l5) (Nat.succ_ne_self _) gx3) gd8 gL8 (Nat.succ_ne_self _)
            have d6a : ads₃[st.length]? = some d6 := nx₃.idx _ _ (by rw [← z.len]; exact List.getElem?_concat_length ..)
            refine ⟨rfl, ?_⟩
            refine ⟨gF, ads₃, selfPV ri st.length wi, st₃, nxF, smF, .inst gFx gFd (.cons (hvr.mono nxF.gsub nxF.idx) (.cons (.loc d6a) (.cons (hvw.mono nxF.gsub nxF.idx) .nil))), ⟨st.length, rfl, tk₃, ko₃, Nat.le_refl _⟩, ?_⟩
            rw [e₃]
section
variable {C : Ctx0} {n : Nat} {sc : Scope} {ρ : List (Str × PV)} {st : List PObj} {Qn : PostN} {Qr : Post}

/-- a frame some of whose names were written: the cells stay -/
theorem FrOk.bare {env : Env} {ρ : List (Str × PV)} {g g' : Fz} {ads ads' own : List Addr} {h h' : Heap} (F : FrOk env ρ g ads h) (x : Nx (env.locals :: own) g ads h g' ads' h') (hd : ∀ b ∈ own, b ∉ ownOf env) {m : Str → Option Value}
    (hn : h'.Ns env.locals m) (la : env.locals ∉ ads') (lg : g' env.locals = none) : FrOk env [] g' ads' h' := by
  have hco : ∀ y c, env.cells.lookup y = some c → c ∉ own := fun y c hc q => hd _ q (.tail _ (List.mem_map.mpr ⟨_, lookup_mem hc, rfl⟩))
  refine ⟨F.kind, F.glob, F.bi, la, lg, ⟨m, hn, fun y p hy _ => (by cases hy)⟩, fun y c hc => ?_, F.cinj, fun y p hy _ => (by cases hy), F.cd, F.cn⟩
  obtain ⟨n1, n2, n3, v₀, hv⟩ := F.cells y c hc
  obtain ⟨o, ho, hdd⟩ := hv
  have hk : h'.get? c = some o := x.keep _ _ n2 (fun q => (List.mem_cons.mp q).elim n1 (hco y c hc)) ho
  exact ⟨n1, fun hm => (by have := x.anew c hm n2; rw [ho] at this; cases this), fun hk => (x.off n2 (n3 hk) ho).2, v₀, o, hk, hdd⟩

theorem compStart1 {prog : Program} {w : World} {A : Around} {s : Shared} {R : Result → Shared → Prop} {elt t1 i1 t2 i2 : Expr} {scope : Scope} {pos : Pos} {it acc : Value} {env : Env}
    (h0 : codeAny (model prog w) A (.compLoop (.ListComp elt [⟨t1, i1, [], 0⟩, ⟨t2, i2, [], 0⟩] scope pos) 1 it acc env) R s)
    (h : wpAny (model prog w) A (pyIter it) (fun it' s' => codeAny (model prog w) A (.compLoop (.ListComp elt [⟨t1, i1, [], 0⟩, ⟨t2, i2, [], 0⟩] scope pos) 1 it' acc env) R s') No s) :
    codeAny (model prog w) A (.compStart (.ListComp elt [⟨t1, i1, [], 0⟩, ⟨t2, i2, [], 0⟩] scope pos) 1 it acc env) R s := by
  refine codeAny_of_tree ?_
  show wpAny _ _ ((compStart (.ListComp elt [⟨t1, i1, [], 0⟩, ⟨t2, i2, [], 0⟩] scope pos) 1 it acc env).onRaise (fun x => do noteFrame x env; standAt theWindowsPlace)) _ _ s
  refine wpAny_notedAt ?_
  unfold compStart
  show wpAny _ _ (ask >>= _) _ _ s
  refine wpAny_bind (wpAny_askSetting (wpAny_ite ?_))
  split
  · first
      | exact wpAny_bind (wpAny_pure (wpAny_pure (And.intro rfl h0)))
      | exact wpAny_pure (And.intro rfl h0)
  · first
      | exact wpAny_bind (wpAny_rule (wpAny_bind (wpAny_standAt (wpAny_bind (wpAny_mono h (fun it' s' h' => wpAny_pure (And.intro rfl h')) fun _ _ x => x.elim)))))
      | (refine wpAny_bind (wpAny_rule ?_); show wpAny _ _ (standAt i2.pos >>= _) _ _ s; exact wpAny_bind (wpAny_standAt (wpAny_bind (wpAny_mono h (fun it' s' h' => wpAny_pure (And.intro rfl h')) fun _ _ x => x.elim))))

/-- the turns of a comprehension over two sources -/
noncomputable def CT2 (C : Ctx0) (n : Nat) (sc : Scope) (t1 t2 i2 elt : Expr) (G : List PObj → Prop) (Q : List PV → List PObj → Prop) : List PV → List PV → List PObj → Prop
  | [], acc, st => Q acc st
  | p :: ps, acc, st => AsgL C n sc t1 p [] st (fun ρ' st' => WI C n sc t2 i2 ρ' st' (fun qs G2 st2 => G2 st2 ∧ acc.length + qs.length ≤ 1000000 ∧
      CT C n sc t2 elt [] G2 (fun acc' st3 => G st3 ∧ CT2 C n sc t1 t2 i2 elt G Q ps acc' st3) qs ρ' acc st2))

theorem turn2 (elt t1 i1 t2 i2 : Expr) (scope : Scope) (pos : Pos) (it acc : Value) (env : Env) :
    compTurn (.ListComp elt [⟨t1, i1, [], 0⟩, ⟨t2, i2, [], 0⟩] scope pos) 0 it acc env = (do
      standAt i1.pos
      match ← pyNext it with
      | none => pure (.done .next)
      | some v =>
        letOwnedTupleGo t1 it v
        PySem.assign t1 env v
        let x ← eval i2 env
        standAt i2.pos
        let x ← foldedSetIterable i2 env x
        let _ ← runOwn (.compStart (.ListComp elt [⟨t1, i1, [], 0⟩, ⟨t2, i2, [], 0⟩] scope pos) 1 (← holding [x] (pyIter x)) acc env) env
        again (.compLoop (.ListComp elt [⟨t1, i1, [], 0⟩, ⟨t2, i2, [], 0⟩] scope pos) 0 it acc env)) := by rfl

theorem comp_loop2 {A : Around} {cenv : Env} {g : Fz} {ads : List Addr} {s : Shared} {I D : Addr} {own : List Addr} {St : Nat → Fz → List Addr → Heap → Prop} {ps : List PV} {G : List PObj → Prop} {t1 i1 t2 i2 elt : Expr}
    {scope : Scope} {pos : Pos} {Q : List PV → List PObj → Prop} {R : Result → Shared → Prop} {vs : List Value} {acc : List PV} (hs : ∀ env x, foldedSetIterable i2 env x = pure x)
    (z : At0 C n sc [] st A cenv g ads s) (wk : Wk C A t1 I own ps G St) (hst : St 0 g ads s.heap) (hG : G st) (hD : s.heap.PlainList D vs.toArray) (nD : D ∉ ads) (gD : g D = none)
    (dC : ∀ b ∈ D :: own, b ∉ ownOf cenv) (dO : D ∉ own) (vrs : VRs g ads vs acc) (turns : CT2 C n sc t1 t2 i2 elt G Q ps acc st)
    (hR : ∀ s' g' ads' st' vs' acc' h₁ m', Nx (cenv.locals :: D :: own) g ads s.heap g' ads' h₁ → (∀ b o, b ∉ own → h₁.get? b = some o → s'.heap.get? b = some o) → Sim C.pw g' ads' st' s'.heap → s'.heap.PlainList D vs'.toArray → VRs g' ads' vs' acc' →
      D ∉ ads' → g' D = none → s'.heap.Ns cenv.locals m' → cenv.locals ∉ ads' → g' cenv.locals = none → Q acc' st' → s' = { s with heap := s'.heap, toks := s'.toks } → R (.ok .next) s') :
    codeAny (model C.prog C.w) A (.compLoop (.ListComp elt [⟨t1, i1, [], 0⟩, ⟨t2, i2, [], 0⟩] scope pos) 0 (.ref I) (.ref D) cenv) R s := by
  have dDL : D ≠ cenv.locals := fun e => dC D (.head _) (by rw [e]; exact .head _)
  have oL : cenv.locals ∉ own := fun h => dC _ (.tail _ h) (.head _)
  have up : ∀ {g g' : Fz} {ads ads' : List Addr} {h h' : Heap} {o}, Nx o g ads h g' ads' h' → (∀ b ∈ o, b = cenv.locals ∨ b = D ∨ b ∈ own) → Nx (cenv.locals :: D :: own) g ads h g' ads' h' := fun x k => x.weaken fun a ha => .inl (by
    rcases k a ha with h | h | h
    · rw [h]; exact .head _
    · rw [h]; exact .tail _ (.head _)
    · exact .tail _ (.tail _ h))
  refine codeAny_loop rfl (CompAt C n sc A cenv g ads s own D ps.length St (fun i ρ' acc' st' => ρ' = [] ∧ G st' ∧ CT2 C n sc t1 t2 i2 elt G Q (ps.drop i) acc' st'))
    ?_ (ps.length + 1) ⟨g, ads, [], st, 0, vs, acc, rfl, Nat.zero_le _, Nx.refl _ _ _ _, z, hst, hD, nD, gD, vrs, ⟨rfl, hG, turns⟩, rfl⟩
  rintro k s' ⟨g', ads', _, st', i, vs', acc', hk, hi, nx, z', hst', hD', nD', gD', vrs', ⟨rfl, hG', q'⟩, e'⟩
  show wpAny _ A ((compTurn (.ListComp elt [⟨t1, i1, [], 0⟩, ⟨t2, i2, [], 0⟩] scope pos) 0 (.ref I) (.ref D) cenv).onRaise (fun x => do noteFrame x cenv; theTreesLotGoes x)) _ _ s'
  refine wpAny_noted ?_
  rw [turn2]
  by_cases hlt : i < ps.length
  · rw [List.drop_eq_getElem_cons hlt] at q'
    refine wpAny_bind (wpAny_standAt (wpAny_bind (wpAny_mono (wk.item (p := ps[i]) hst' z'.base z'.sim hG' (List.getElem?_eq_getElem hlt)) (fun r s₁ hr => ?_) fun a b f => f.elim)))
    obtain ⟨v, rfl, hr⟩ := hr
    refine wpAny_bind (wpAny_mono hr (fun _ s₃ h₃ => ?_) fun a b f => f.elim)
    obtain ⟨g₃, nx₃, sm₃, vr, hst₃, e₃⟩ := h₃
    have z₃ := z'.step nx₃ (fun b hb => dC b (.tail _ hb)) sm₃
    obtain ⟨hD₃, nD₃, gD₃⟩ := plain_keep nx₃ hD' nD' gD' dO
    have N3 := nx.trans (up nx₃ fun _ h => .inr (.inr h))
    refine wpAny_bind (wpAny_mono (q' A cenv g₃ ads' s₃ v z₃ vr) (fun _ s₄ h₄ => ?_) fun a b f => f.elim)
    obtain ⟨g₄, ads₄, ρ₄, st₄, nx₄, sm₄, fr₄, q₄, e₄⟩ := h₄
    have z₄ : At0 C n sc ρ₄ st₄ A cenv g₄ ads₄ s₄ := ⟨z'.a, z'.sc, fun b o e => nx₄.gsub _ _ (z₃.base _ _ e), fr₄, sm₄⟩
    have hst₄ := wk.frame hst₃ nx₄ fun b hb hm => oL (List.mem_singleton.mp hm ▸ hb)
    obtain ⟨hD₄, nD₄, gD₄⟩ := plain_keep nx₄ hD₃ nD₃ gD₃ (fun hm => dDL (List.mem_singleton.mp hm))
    have N4 := N3.trans (up nx₄ fun _ h => .inl (List.mem_singleton.mp h))
    have v4 := (vrs'.mono nx₃.gsub nx₃.idx).mono nx₄.gsub nx₄.idx
    have e4 : s₄ = { s with heap := s₄.heap, toks := s₄.toks } := by rw [e₄, e₃, e']
    refine wpAny_bind (wpAny_mono (q₄ A cenv g₄ ads₄ s₄ z₄) (fun x s₅ h₅ => ?_) fun a b f => f.elim)
    refine wpAny_bind (wpAny_standAt (wpAny_bind (wpAny_of_eq (hs _ _) (wpAny_bind (wpAny_holding (wpAny_mono h₅ (fun it s₆ h₆ => ?_) fun a b f => f.elim))))))
    obtain ⟨I2, own2, St2, qs, G2, g₆, ads₆, st₆, rfl, wk₂, nx₆, sm₆, hst₆, fresh₂, ⟨hG₆, hlen, q₆⟩, e₆⟩ := h₆
    have z₆ := z₄.next nx₆ sm₆
    obtain ⟨hD₆, nD₆, gD₆⟩ := plain_keep nx₆ hD₄ nD₄ gD₄ (by simp)
    have v6 := v4.mono nx₆.gsub nx₆.idx
    have there2 : ∀ b ∈ own2, ∀ o, s₄.heap.get? b ≠ some o := fun b hb o e => by rw [fresh₂ b hb] at e; cases e
    have dD2 : D ∉ own2 := fun hm => by obtain ⟨k, e⟩ := hD₄; exact there2 D hm _ e
    have loop : codeAny (model C.prog C.w) A (.compLoop (.ListComp elt [⟨t1, i1, [], 0⟩, ⟨t2, i2, [], 0⟩] scope pos) 1 (.ref I2) (.ref D) cenv)
        (fun r s₇ => r = .ok .next ∧ ∃ m, m < k ∧ CompAt C n sc A cenv g ads s own D ps.length St (fun i ρ' acc' st' => ρ' = [] ∧ G st' ∧ CT2 C n sc t1 t2 i2 elt G Q (ps.drop i) acc' st') m s₇) s₆ := by
      refine comp_loop (own := own2) (St := St2) (ps := qs) (G := G2) (target := t2) (ifs := []) (vs := vs') (acc := acc') (sc := sc) (ρ := ρ₄) (p0 := i2.pos) (by rfl) z₆ wk₂ hst₆ hG₆ hD₆ nD₆ gD₆ (fun b hb hm => ?_) dD2 v6 hlen q₆ ?_
      · rcases List.mem_cons.mp hb with r | r
        · exact dC b (by rw [r]; exact .head _) hm
        · obtain ⟨o, ho⟩ := z₄.fr.ownThere _ hm
          exact there2 b r o ho
      · intro s₇ g₇ ads₇ st₇ vs₇ acc₇ h₇ m₇ nx₇ ext₇ sm₇ hD₇ vrs₇ nD₇ gD₇ hn₇ nC₇ gC₇ q₇ e₇
        have nt : Nx ([cenv.locals, D] ++ own2) g₄ ads₄ s₄.heap g₇ ads₇ h₇ := (nx₆.weaken fun a ha => by simp at ha).trans nx₇
        have nf : Nx [cenv.locals, D] g₄ ads₄ s₄.heap g₇ ads₇ s₇.heap := nt.finish fresh₂ ext₇
        have fr₇ : FrOk cenv [] g₇ ads₇ s₇.heap := z₄.fr.bare nf (fun b hb => by rw [List.mem_singleton.mp hb]; exact dC D (.head _)) hn₇ nC₇ gC₇
        have hst₇ := wk.frame hst₄ nf fun b hb hm => by
          rcases List.mem_cons.mp hm with r | r
          · exact oL (r ▸ hb)
          · exact dO (List.mem_singleton.mp r ▸ hb)
        refine ⟨rfl, ps.length + 1 - (i + 1), by walk_at "om", g₇, ads₇, [], st₇, i + 1, vs₇, acc₇, rfl, hlt, N4.trans (up nf fun b hb => ?_), ⟨z'.a, z'.sc, fun b o e => nf.gsub _ _ (z₄.base _ _ e), fr₇, sm₇⟩, hst₇, hD₇, nD₇, gD₇, vrs₇, ⟨rfl, q₇.1, q₇.2⟩, by rw [e₇, e₆, e4]⟩
        rcases List.mem_cons.mp hb with r | r
        · exact .inl r
        · exact .inr (.inl (List.mem_singleton.mp r))
    refine wpAny_bind (wpAny_runOwn (A := A) (h := none) ?_)
    refine codeAny_mono (A := A) (compStart1 loop (wpAny_mono (wk₂.self (Q := fun v s' => v = .ref I2 ∧ s' = s₆) hst₆ ⟨rfl, rfl⟩) (fun v s' r => by obtain ⟨rfl, rfl⟩ := r; exact loop) fun a b f => f.elim)) fun r s₇ h₇ => ?_
    obtain ⟨rfl, h₇⟩ := h₇
    exact wpAny_pure ⟨rfl, h₇⟩
  · have hi' : i = ps.length := by walk_at "om"
    subst hi'
    rw [List.drop_length] at q'
    refine wpAny_bind (wpAny_standAt (wpAny_bind (wpAny_mono (wk.done hst' z'.sim hG') (fun r s₁ hr => ?_) fun a b f => f.elim)))
    obtain ⟨rfl, ext, e₁⟩ := hr
    have lv := wk.live hst'
    have sm₁ : Sim C.pw g' ads' st' s₁.heap := z'.sim.ext fun b o hb e => ext b o (fun hm => by
      obtain ⟨m1, m2, _⟩ := lv b hm
      rcases hb with hb | hb
      · exact m1 hb
      · exact hb m2) e
    obtain ⟨m, hn, hm⟩ := z'.fr.ns
    obtain ⟨oL', es, ep, hL, r⟩ := id hn
    exact wpAny_pure (hR s₁ g' ads' st' vs' acc' s'.heap m nx ext sm₁ (hD'.at fun o e => ext _ _ dO e) vrs' nD' gD' ⟨oL', es, ep, ext _ _ oL hL, r⟩ z'.fr.la z'.fr.lg q' (by rw [e₁, e']))
theorem FrOk.sub0 {env : Env} {ρ : List (Str × PV)} {g : Fz} {ads : List Addr} {h : Heap} (F : FrOk env ρ g ads h) : FrOk env [] g ads h := by
  obtain ⟨m, hn, hm⟩ := F.ns
  exact ⟨F.kind, F.glob, F.bi, F.la, F.lg, ⟨m, hn, fun y p hy _ => (by cases hy)⟩, F.cells, F.cinj, fun y p hy _ => (by cases hy), F.cd, F.cn⟩
theorem comp_block2 {A : Around} {env : Env} {csc : Scope} {g g₂ : Fz} {ads ads₂ : List Addr} {s s₂ : Shared} {st₂ : List PObj} {I : Addr} {own : List Addr} {St : Nat → Fz → List Addr → Heap → Prop} {ps : List PV} {G : List PObj → Prop} {t1 i1 t2 i2 elt : Expr}
    {pos : Pos} {Q : List PV → List PObj → Prop} {RR : Value → Addr → Result → Shared → Prop} (hs2 : ∀ env x, foldedSetIterable i2 env x = pure x) (hkind : csc.kind = .function)
    (hcell : csc.names.all (fun x => x.2 != .cell) = true) (hfree : csc.names.all (fun x => x.2 != .free || sc.names.lookup x.1 == some .cell) = true) (hnd : (csc.names.map (·.1)).Nodup)
    (z : At0 C n sc ρ st A env g ads s) (wk : Wk C A t1 I own ps G St) (nx₂ : Nx [] g ads s.heap g₂ ads₂ s₂.heap) (sm₂ : Sim C.pw g₂ ads₂ st₂ s₂.heap) (hst : St 0 g₂ ads₂ s₂.heap) (fresh : ∀ b ∈ own, s.heap.get? b = none) (e₂ : s₂ = { s with heap := s₂.heap, toks := s₂.toks })
    (hG : G st₂) (turns : CT2 C n (relS csc) t1 t2 i2 elt G Q ps [] st₂)
    (hK : ∀ D Cc s' g' ads' st' acc' m', s.heap.get? D = none → s.heap.get? Cc = none → D ≠ Cc → Nx [] g ads s.heap g' (ads' ++ [D]) s'.heap → Sim C.pw g' (ads' ++ [D]) (st' ++ [.list acc']) s'.heap → ads'.length = st'.length → Cc ∉ ads' ++ [D] → g' Cc = none → s'.heap.Ns Cc m' → Q acc' st' →
      s' = { s with heap := s'.heap, toks := s'.toks } → RR (.ref D) Cc (.ok .next) s') :
    wpAny (model C.prog C.w) A (newList []) (fun acc s₃ => wpAny (model C.prog C.w) A (newFunctionEnv csc env.globals (clo env.cells csc.names []) [] env.qual none .none (some env)) (fun cenv s₄ =>
      codeAny (model C.prog C.w) A (.compStart (.ListComp elt [⟨t1, i1, [], 0⟩, ⟨t2, i2, [], 0⟩] csc pos) 0 (.ref I) acc { cenv with scope := relabel csc env }) (RR acc cenv.locals) s₄) No s₃) No s₂ := by
  have z₂ : At0 C n sc ρ st₂ A env g₂ ads₂ s₂ := z.next nx₂ sm₂
  have hcell' : ∀ y ∈ csc.names, y.2 ≠ .cell := fun y hy => by have := List.all_eq_true.mp hcell _ hy; simpa using this
  refine wpAny_newObj_type (wpAny_newFunctionEnv hcell' (by intro y hy; simp at hy) (fun h₁ hns₁ hsb₁ => ?_) hkind)
  dsimp only at hns₁ hsb₁ ⊢
  have lo := z₂.lo
  obtain ⟨nxD, smD⟩ := hidden z₂.sim { cls := .type "list", dict := none, data := .seq ([] : List Value).toArray }
  generalize hH2 : s₂.heap.push { cls := .type "list", dict := none, data := .seq ([] : List Value).toArray } = H2 at hns₁ hsb₁ nxD smD ⊢
  have hC : H2.objs.size = s₂.heap.objs.size + 1 := by rw [← hH2, Heap.size_push]
  have hDC : s₂.heap.objs.size ≠ H2.objs.size := by rw [hC]; exact Nat.ne_of_lt (Nat.lt_succ_self _)
  have fD : s₂.heap.get? s₂.heap.objs.size = none := fresh_none
  have fC : s₂.heap.get? H2.objs.size = none := fresh_get (by rw [hC]; exact Nat.le_succ _)
  have gD2 : H2.get? s₂.heap.objs.size = some { cls := .type "list", dict := none, data := .seq ([] : List Value).toArray } := by rw [← hH2]; exact Heap.get?_push_size _ rfl
  have hpl : h₁.PlainList s₂.heap.objs.size ([] : List Value).toArray := ⟨_, hsb₁.extBut _ _ hDC (Heap.get?_push_of_some _ gD2)⟩
  have ext21 : ∀ b o, s₂.heap.get? b = some o → h₁.get? b = some o := fun b o e => hsb₁.extBut b o (fun q => by rw [q, fC] at e; cases e) (Heap.get?_push_of_some _ (by rw [← hH2]; exact Heap.get?_push_of_some _ e))
  have nx21 : Nx [] g₂ ads₂ s₂.heap g₂ ads₂ h₁ := ⟨fun a b e => e, ⟨[], by simp⟩, fun b o _ _ e => ext21 b o e, fun a n o e => (by rw [n] at e; cases e), fun _ m n => absurd m n, fun b e => by
    obtain ⟨o', ho'⟩ := Option.isSome_iff_exists.mp e
    rw [ext21 _ _ ho']; rfl⟩
  have sm1 : Sim C.pw g₂ ads₂ st₂ h₁ := z₂.sim.ext fun b o _ e => ext21 b o e
  have hst₁ : St 0 g₂ ads₂ h₁ := wk.frame hst nx21 fun b _ hm => by simp at hm
  have frc := comp_frame (Cc := H2.objs.size) z₂.fr z.sc hkind hcell hfree hnd rfl fC (z₂.sim.ads_fresh fC) (z₂.sim.gfresh fC) ext21 hns₁
  have ownThere2 : ∀ b ∈ own, ∃ o, s₂.heap.get? b = some o := fun b hb => (wk.live hst b hb).2.2
  have cellsThere : ∀ b ∈ (clo env.cells csc.names []).map (·.2), ∃ o, s.heap.get? b = some o := fun b hb => by
    obtain ⟨⟨y, c⟩, hm, rfl⟩ := List.mem_map.mp hb
    have := (clo_spec (cells := env.cells) csc.names [] hnd List.nodup_nil (fun _ _ => by simp)).2 y c
    rcases this.mp (mem_lookup (clo_spec (cells := env.cells) csc.names [] hnd List.nodup_nil (fun _ _ => by simp)).1 hm) with q | q
    · cases q
    · exact z.fr.ownThere _ (.tail _ (List.mem_map.mpr ⟨_, lookup_mem q.2, rfl⟩))
  have hscope : relabel csc env = relS csc := relabel_is z.sc z.fr.kind hfree
  have loop : ∀ s₃ : Shared, s₃ = { s₂ with heap := h₁, toks := s₂.toks + ([] : List (Str × Value)).length } →
      codeAny (model C.prog C.w) A (.compLoop (.ListComp elt [⟨t1, i1, [], 0⟩, ⟨t2, i2, [], 0⟩] csc pos) 0 (.ref I) (.ref s₂.heap.objs.size) { scope := relS csc, locals := H2.objs.size, globals := env.globals, cells := clo env.cells csc.names [], qual := env.qual, func := none, code := env.code, frame := env.frame, builtins := env.builtins })
        (RR (.ref s₂.heap.objs.size) H2.objs.size) s₃ := by
    rintro s₃ rfl
    refine comp_loop2 (own := own) (St := St) (ps := ps) (G := G) (t1 := t1) (vs := []) (acc := []) (sc := relS csc) (Q := Q) hs2 ⟨z.a, rfl, fun b o e => nx21.gsub _ _ (z₂.base _ _ e), frc.sub0, sm1⟩ wk hst₁ hG hpl
      (z₂.sim.ads_fresh fD) (z₂.sim.gfresh fD) (fun b hb hm => ?_) (fun hm => ?_) .nil turns ?_
    · rcases List.mem_cons.mp hm with q | q
      · rcases List.mem_cons.mp hb with r | r
        · exact hDC (r.symm.trans q)
        · obtain ⟨o, ho⟩ := ownThere2 b r
          rw [show b = H2.objs.size from q, fC] at ho; cases ho
      · obtain ⟨o, ho⟩ := cellsThere b q
        rcases List.mem_cons.mp hb with r | r
        · rw [r] at ho
          rw [nx₂.none fD] at ho; cases ho
        · rw [fresh b r] at ho; cases ho
    · obtain ⟨o, ho⟩ := ownThere2 _ hm
      rw [fD] at ho; cases ho
    · intro s' g' ads' st' vs' acc' hm m' nxl ext sml hpl' vrs' nD gD' hns nC gC q e'
      have fDs := nx₂.none fD
      have fCs := nx₂.none fC
      have tot : Nx ([] ++ (H2.objs.size :: s₂.heap.objs.size :: own)) g ads s.heap g' ads' hm := (((nx₂.trans nx21).weaken fun a ha => by simp at ha).trans nxl)
      have fr : ∀ b ∈ H2.objs.size :: s₂.heap.objs.size :: own, s.heap.get? b = none := fun b hb => by
        rcases List.mem_cons.mp hb with r | hb
        · rw [r]; exact fCs
        · rcases List.mem_cons.mp hb with r | hb
          · rw [r]; exact fDs
          · exact fresh b hb
      have fin : Nx [] g ads s.heap g' ads' s'.heap := tot.finish fr fun b o hb e => ext b o (fun r => hb (.tail _ (.tail _ r))) e
      refine hK _ _ s' g' ads' st' acc' m' fDs fCs hDC (fin.adopt fDs) (adopt sml hpl' nD gD' lo vrs') sml.len (fun r => ?_) gC hns q (by rw [e', e₂])
      rcases List.mem_append.mp r with r | r
      · exact nC r
      · exact hDC (List.mem_singleton.mp r).symm
  have hst₁' := hst₁
  rw [hscope]
  exact codeAny_compStart_list (loop _ rfl) (wpAny_mono (wk.self (Q := fun v s' => v = .ref I ∧ s' = { s₂ with heap := h₁, toks := s₂.toks + ([] : List (Str × Value)).length }) hst₁' ⟨rfl, rfl⟩) (fun v s' r => by obtain ⟨rfl, rfl⟩ := r; exact loop _ rfl) fun a b f => f.elim)

theorem W.comp2 {csc : Scope} {t1 i1 t2 i2 elt : Expr} {pos : Pos} {Q : Post} (hkind : csc.kind = .function)
    (hcell : csc.names.all (fun x => x.2 != .cell) = true) (hfree : csc.names.all (fun x => x.2 != .free || sc.names.lookup x.1 == some .cell) = true) (hnd : (csc.names.map (·.1)).Nodup)
    (hs : ∀ env x, foldedSetIterable i1 env x = pure x) (hs2 : ∀ env x, foldedSetIterable i2 env x = pure x)
    (h : WI C n sc t1 i1 ρ st (fun ps G st' => G st' ∧ CT2 C n (relS csc) t1 t2 i2 elt G (fun acc st'' => Q (.loc st''.length) (st'' ++ [.list acc])) ps [] st')) :
    W C n sc (.ListComp elt [⟨t1, i1, [], 0⟩, ⟨t2, i2, [], 0⟩] csc pos) ρ st Q := by
  intro A env g ads s z
  rw [eval_ListComp]
  refine wpAny_comprehension_free (use := none) rfl (hs env) (closureFor_is fun m hm => ?_) hkind (fun x hx hl => ?_) (wpAny_mono (h A env g ads s z) (fun xv s₁ h₁ => wpAny_mono h₁ (fun it s₂ h₂ => ?_) fun a b f => f) fun a b f => f)
  · have := List.all_eq_true.mp hfree _ hm
    have hk : env.kindOf m = some .cell := by unfold Env.kindOf; rw [z.sc]; simpa using this
    obtain ⟨c, hc⟩ := z.fr.cd m hk
    rw [hc]; rfl
  · obtain ⟨y, k⟩ := x
    subst hl
    exact mem_lookup hnd hx
  · obtain ⟨I, own, St, ps, G, g₂, ads₂, st₂, rfl, wk, nx₂, sm₂, hst₂, fresh, ⟨hG, q⟩, e₂⟩ := h₂
    refine comp_block2 (RR := fun acc C' => compPost (model C.prog C.w) A No none (Res C.pw [] g ads s Q) acc C') hs2 hkind hcell hfree hnd z wk nx₂ sm₂ hst₂ fresh e₂ hG q ?_
    intro D Cc s' g' ads' st' acc' m' fD fC hDC nx sm hl nC gC hns q' e'
    refine ⟨m', hns, fun h' hs' => ?_⟩
    refine ⟨g', ads' ++ [D], .loc st'.length, st' ++ [.list acc'], Nx.finish (own := [Cc]) (own' := []) (h₁ := s'.heap) (nx.weaken fun a ha => by simp at ha) (fun b hb => by rw [List.mem_singleton.mp hb]; exact fC) (fun b o hb e => hs'.extBut b o (fun r => hb (by rw [r]; exact .head _)) e), ?_, .loc (by rw [← hl]; simp), q', by rw [e']⟩
    refine sm.ext fun b o hb e => hs'.extBut b o (fun r => ?_) e
    subst r
    rcases hb with hb | hb
    · exact nC hb
    · exact hb gC


theorem WI.range1 {target : Expr} {x : Str} {px pos : Pos} {ea : Expr} {Q : List PV → (List PObj → Prop) → List PObj → Prop} (hk : sc.names.lookup x = some .globalImplicit) (hx : nsIn (hd.heap_1 C.w.params) mainGlobals x = some none)
    (hv : bootBuiltins x = some (.type "range")) (hn : x ≠ "__name__") (hd : (x == ("__debug__" : Str)) = false)
    (he : ∀ env, eval (.Call (.Name x px) [ea] [] pos) env = (do callWith pos (← eval (.Name x px) env) [] (backTo pos (starEach [ea] env)) (backToKw pos (keywordEach [] env))))
    (hs : ∀ env, starEach [ea] env = (false, eval ea env) :: starEach [] env) (hp : ∀ env, (backTo pos (starEach [] env)).any (·.1) = false)
    (h : Ws C n sc [ea] ρ st (fun ps st₁ => ∃ n : Nat, ps = [.int n] ∧ n < 1000000 ∧ Q ((List.range n).map fun (i : Nat) => .int (0 + i)) (fun _ => True) st₁)) :
    WI C n sc target (.Call (.Name x px) [ea] [] pos) ρ st Q := by
  intro A env g ads s z
  refine Call_ (evalBuiltin z hk hx hv hn hd ?_) (he env)
  refine PyProof.Rows.callWith_type1 (Ws.run h z fun vs s₁ g₁ ads₁ ps st₁ z₁ x₁ e₁ vrs q => ?_) (hs env) (hp env)
  obtain ⟨m, rfl, hm, q⟩ := q
  cases vrs with
  | @cons vb _ _ _ hvb r =>
    cases r; cases hvb with | int _ u =>
    refine call_range_1 ?_
    have hr := IsRange.new s₁.heap 0 (m : Nat) 1 s₁.toks u (s₁.toks + 1)
    obtain ⟨nx, sm⟩ := hidden z₁.sim { cls := .type "range", data := .fields #[.int 0 s₁.toks, .int (m : Nat) u, .int 1 (s₁.toks + 1)] }
    refine wpAny_pyIter_range hr (small_one (by walk_at "om") (by walk_at "om") (by walk_at "om") (by walk_at "om")) ?_
    have hsz : Builtin.Range.rangeSize 0 (m : Nat) 1 = (m : Int) := by rw [rangeSize_one]; split <;> omega
    rw [hsz]
    obtain ⟨nx2, sm2⟩ := hidden (h := s₁.heap.push { cls := .type "range", data := .fields #[.int 0 s₁.toks, .int (m : Nat) u, .int 1 (s₁.toks + 1)] }) sm { cls := .type "range_iterator", data := .fields #[rawInt 0, rawInt (m : Int), rawInt 1] }
    have fr : (s₁.heap.push { cls := .type "range", data := .fields #[.int 0 s₁.toks, .int (m : Nat) u, .int 1 (s₁.toks + 1)] }).get? (s₁.heap.push { cls := .type "range", data := .fields #[.int 0 s₁.toks, .int (m : Nat) u, .int 1 (s₁.toks + 1)] }).objs.size = none := fresh_none
    refine ⟨_, _, _, _, _, g₁, ads₁, st₁, rfl, Wk.range (a := 0) (n := m) z.a.hh, (x₁.trans nx).trans nx2, sm2, ⟨?_, sm.ads_fresh fr, sm.gfresh fr⟩,
      fun b hb => (by rw [List.mem_singleton.mp hb]; exact (x₁.trans nx).none fr), q, by rw [e₁]⟩
    have := Heap.get?_push_size (s₁.heap.push { cls := .type "range", data := .fields #[.int 0 s₁.toks, .int (m : Nat) u, .int 1 (s₁.toks + 1)] }) (o := { cls := .type "range_iterator", data := .fields #[rawInt 0, rawInt (m : Int), rawInt 1] }) rfl
    have e1 : (0 : Int) + ((0 : Nat) : Int) * 1 = 0 := by walk_at "om"
    have e2 : (m : Int) - ((0 : Nat) : Int) = m := by walk_at "om"
    rw [e1, e2]
    exact this

theorem WI.mono {target e : Expr} {Q Q' : List PV → (List PObj → Prop) → List PObj → Prop} (h : WI C n sc target e ρ st Q) (hq : ∀ ps G st', Q ps G st' → Q' ps G st') : WI C n sc target e ρ st Q' := fun A env g ads s z =>
  wpAny_mono (h A env g ads s z) (fun x s₁ h₁ => wpAny_mono h₁ (fun it s₂ h₂ => by
    obtain ⟨I, own, St, ps, G, g', ads', st', e1, wk, nx, sm, hst, fr, q, e2⟩ := h₂
    exact ⟨I, own, St, ps, G, g', ads', st', e1, wk, nx, sm, hst, fr, hq _ _ _ q, e2⟩) fun a b f => f) fun a b f => f
theorem CT.mono {target elt : Expr} {ifs : List Expr} {G : List PObj → Prop} {Q Q' : List PV → List PObj → Prop} (hq : ∀ acc st', Q acc st' → Q' acc st') : ∀ (ps : List PV) (ρ : List (Str × PV)) (acc : List PV) (st : List PObj), CT C n sc target elt ifs G Q ps ρ acc st → CT C n sc target elt ifs G Q' ps ρ acc st
  | [], ρ, acc, st, h => hq _ _ h
  | p :: ps, ρ, acc, st, h => AsgL.mono (h : AsgL C n sc target p ρ st _) fun ρ' st' h' => h'.mono fun b st₂ q => ⟨fun hb => (q.1 hb).mono fun v st₃ r => ⟨r.1, CT.mono hq ps ρ' _ st₃ r.2⟩, fun hb => ⟨(q.2 hb).1, CT.mono hq ps ρ' acc st₂ (q.2 hb).2⟩⟩
theorem CT2.inv {t1 t2 i2 elt : Expr} {G : List PObj → Prop} {Q : List PV → List PObj → Prop} {all : List PV} (Inv : Nat → List PV → List PObj → Prop)
    (turn : ∀ i p acc st', all[i]? = some p → Inv i acc st' → G st' → AsgL C n sc t1 p [] st' (fun ρ' st2 => WI C n sc t2 i2 ρ' st2 (fun qs G2 st3 => G2 st3 ∧ acc.length + qs.length ≤ 1000000 ∧
      CT C n sc t2 elt [] G2 (fun acc' st4 => G st4 ∧ Inv (i + 1) acc' st4) qs ρ' acc st3)))
    (fin : ∀ acc st', Inv all.length acc st' → Q acc st') : ∀ (ps : List PV) (i : Nat) (acc : List PV) (st : List PObj), all.drop i = ps → i ≤ all.length → Inv i acc st → G st → CT2 C n sc t1 t2 i2 elt G Q ps acc st := by
  intro ps
  induction ps with
  | nil =>
    intro i acc st hd hi h hG
    have : i = all.length := by have := congrArg List.length hd; simp at this; omega
    subst this
    exact fin acc st h
  | cons p ps ih =>
    intro i acc st hd hi h hG
    have hp : all[i]? = some p := by have := congrArg (fun l => l[0]?) hd; simpa using this
    have hlt := (List.getElem?_eq_some_iff.mp hp).1
    have hd' : all.drop (i + 1) = ps := by rw [← List.tail_drop, hd]; rfl
    exact (turn i p acc st hp h hG).mono fun ρ' st' h' => h'.mono fun qs G2 st3 q => ⟨q.1, q.2.1, CT.mono (fun acc' st4 r => ⟨r.1, ih (i + 1) acc' st4 hd' hlt r.2 r.1⟩) _ _ _ _ q.2.2⟩
end
/-! ## the plain law -/
noncomputable def occ (l : Lf) : Tm → Int
  | .L m => if m = l then 1 else 0
  | .F t => occ l t
  | .G s t => occ l s + occ l t
theorem occ_pos (l : Lf) : ∀ t, 0 ≤ occ l t
  | .L m => by unfold occ; split <;> omega
  | .F t => occ_pos l t
  | .G s t => by have := occ_pos l s; have := occ_pos l t; unfold occ; omega
theorem pts_F (t : Tm) : pts (.F t) = .F t :: pts t := by simp [pts, partsL]
theorem pts_G (s t : Tm) : pts (.G s t) = .G s t :: (pts s ++ pts t) := by
  simp [pts, partsL]
  rfl
theorem cntOf_occ {l : Lf} (hl : l = .x ∨ l = .y) : ∀ t, cntOf t l.str = occ l t := by
  intro t
  unfold cntOf
  rw [cnt_get]
  induction t with
  | L m => rcases hl with rfl | rfl <;> cases m <;> decide +kernel
  | F t ih =>
    rw [pts_F, List.filter_cons]
    have : (isVar (.F t) && opOf (.F t) == l.str) = false := rfl
    rw [if_neg (by rw [this]; simp)]
    exact ih
  | G s t ih ih' =>
    rw [pts_G, List.filter_cons]
    have : (isVar (.G s t) && opOf (.G s t) == l.str) = false := rfl
    rw [if_neg (by rw [this]; simp), List.filter_append, List.length_append]
    show _ = occ l s + occ l t
    rw [← ih, ← ih']
    omega
theorem key_of_pos {w : Tab} {k : Str} (h : (w.lookup k).getD 0 ≠ 0) : k ∈ w.map (·.1) := by
  cases q : w.lookup k with
  | none => rw [q] at h; exact absurd rfl h
  | some v => exact List.mem_map.mpr ⟨(k, v), lookup_mem q, rfl⟩
theorem bad_iff (s t : Tm) : bad s t = true ↔ (occ .x s < occ .x t ∨ occ .y s < occ .y t) := by
  unfold bad
  rw [List.any_eq_true]
  constructor
  · rintro ⟨k, hk, h⟩
    have h := of_decide_eq_true h
    obtain ⟨y, hy, rfl⟩ := List.mem_map.mp hk
    rcases (cnt_keys (pts t)).1 y hy with q | q
    · left
      rw [q] at h
      have e1 := cntOf_occ (l := .x) (.inl rfl) s
      have e2 := cntOf_occ (l := .x) (.inl rfl) t
      rw [← e1, ← e2]; exact h
    · right
      rw [q] at h
      have e1 := cntOf_occ (l := .y) (.inr rfl) s
      have e2 := cntOf_occ (l := .y) (.inr rfl) t
      rw [← e1, ← e2]; exact h
  · rintro (h | h)
    · have e1 := cntOf_occ (l := .x) (.inl rfl) s
      have e2 := cntOf_occ (l := .x) (.inl rfl) t
      rw [← e1, ← e2] at h
      have p1 := occ_pos .x s
      rw [← e1] at p1
      refine ⟨Lf.x.str, key_of_pos (fun q => ?_), decide_eq_true h⟩
      have : cntOf t Lf.x.str = 0 := q
      omega
    · have e1 := cntOf_occ (l := .y) (.inr rfl) s
      have e2 := cntOf_occ (l := .y) (.inr rfl) t
      rw [← e1, ← e2] at h
      have p1 := occ_pos .y s
      rw [← e1] at p1
      refine ⟨Lf.y.str, key_of_pos (fun q => ?_), decide_eq_true h⟩
      have : cntOf t Lf.y.str = 0 := q
      omega

structure WOk (wt : Tab) : Prop where
  u : wt.lookup Lf.u.str = none
  h : wt.lookup Lf.h.str = some 97
  lo : ∀ t, 1 ≤ wOf wt t
  hi : ∀ t, plain t = true → wOf wt t ≤ 4

theorem weight_L (wt : Tab) (l : Lf) : weightV wt (.L l) = wOf wt (.L l) := by rw [weight_kids]; simp [kids]
theorem weight_F (wt : Tab) (t : Tm) : weightV wt (.F t) = wOf wt (.F t) + weightV wt t := by rw [weight_kids]; simp [kids]
theorem weight_G (wt : Tab) (s t : Tm) : weightV wt (.G s t) = wOf wt (.G s t) + (weightV wt s + weightV wt t) := by rw [weight_kids]; simp [kids]
theorem wOf_F (wt : Tab) (s t : Tm) : wOf wt (.F s) = wOf wt (.F t) := rfl
theorem wOf_G (wt : Tab) (s s' t t' : Tm) : wOf wt (.G s s') = wOf wt (.G t t') := rfl
theorem weight_mt (wt : Tab) (p q : Lf) : ∀ t, weightV wt (mt p q t) = weightV wt t + (wOf wt (.L p) - 1) * occ .x t + (wOf wt (.L q) - 1) * occ .y t := by
  have hx : wOf wt (.L .x) = 1 := rfl
  have hy : wOf wt (.L .y) = 1 := rfl
  intro t
  induction t with
  | L m =>
    cases m <;> simp only [mt, weight_L, occ, hx, hy, reduceCtorEq, if_false, if_true, Int.mul_zero, Int.mul_one, Int.add_zero] <;> omega
  | F t ih =>
    simp only [mt, weight_F, ih, occ]
    rw [wOf_F wt (mt p q t) t]
    omega
  | G s t ih ih' =>
    simp only [mt, weight_G, ih, ih', occ]
    rw [wOf_G wt (mt p q s) (mt p q t) s t]
    rw [Int.mul_add, Int.mul_add]
    omega
theorem wOf_u {wt : Tab} (W : WOk wt) : wOf wt (.L .u) = 1 := by
  show (if isVar (.L .u) = true then (1 : Int) else (wt.lookup Lf.u.str).getD 1) = 1
  rw [if_neg (by decide), W.u]; rfl
theorem wOf_h {wt : Tab} (W : WOk wt) : wOf wt (.L .h) = 97 := by
  show (if isVar (.L .h) = true then (1 : Int) else (wt.lookup Lf.h.str).getD 1) = 97
  rw [if_neg (by decide), W.h]; rfl
theorem weight_pos {wt : Tab} (W : WOk wt) (t : Tm) : 1 ≤ weightV wt t := by
  induction t with
  | L m => rw [weight_L]; exact W.lo _
  | F t ih => rw [weight_F]; have := W.lo (.F t); omega
  | G s t ih ih' => rw [weight_G]; have := W.lo (.G s t); omega
theorem weight_hi {wt : Tab} (W : WOk wt) : ∀ t, plain t = true → weightV wt t ≤ 4 * nodes t := by
  intro t
  induction t with
  | L m => intro h; rw [weight_L]; have := W.hi _ h; simp only [nodes]; omega
  | F t ih => intro h; have := ih h; rw [weight_F]; have := W.hi _ h; simp only [nodes]; omega
  | G s t ih ih' =>
    intro h
    have hh := W.hi _ h
    simp only [plain, Bool.and_eq_true] at h
    have := ih h.1
    have := ih' h.2
    rw [weight_G]; simp only [nodes]; omega
theorem weight_small {wt : Tab} (W : WOk wt) {t : Tm} (hp : plain t = true) (h3 : ht t ≤ 3) : weightV wt t ≤ 28 := by
  have h1 := weight_hi W t hp
  have h2 := nodes_ht t
  have h4 := Nat.pow_le_pow_right (n := 2) (by walk_at "om") h3
  have h8 : 2 ^ 3 = 8 := by decide
  omega
theorem neg_iff {wt : Tab} (W : WOk wt) (s t : Tm) : neg wt s t = true ↔ (weightV wt s < weightV wt t ∨ weightV wt s + 96 * occ .x s < weightV wt t + 96 * occ .x t ∨ weightV wt s + 96 * occ .y s < weightV wt t + 96 * occ .y t) := by
  simp only [neg, gaps, gap, List.any_cons, List.any_nil, Bool.or_eq_true, decide_eq_true_eq, Bool.or_false, weight_mt, wOf_u W, wOf_h W]
  omega
theorem gap_u {wt : Tab} (W : WOk wt) (s t : Tm) : gap wt .u .u s t = weightV wt s - weightV wt t := by
  simp only [gap, weight_mt, wOf_u W]
  omega
theorem first_of {rk : Tab} {s t : Tm} (f : Tm → Tm → Bool) (hne : s ≠ t) (h3 : same3 rk s t = true) : ∃ i a b, (diffs s t).head? = some i ∧ (kids s)[i]? = some a ∧ (kids t)[i]? = some b ∧ firstAb f (kids s) (kids t) = f a b := by
  unfold same3 at h3
  simp only [Bool.and_eq_true, beq_iff_eq] at h3
  obtain ⟨⟨_, ho⟩, hk⟩ := h3
  cases s with
  | L l =>
    cases t with
    | L l' => exact absurd (congrArg Tm.L (str_inj ho)) hne
    | F _ => simp [kids] at hk
    | G _ _ => simp [kids] at hk
  | F a =>
    cases t with
    | L _ => simp [kids] at hk
    | F b =>
      have hab : a ≠ b := fun q => hne (by rw [q])
      refine ⟨0, a, b, ?_, rfl, rfl, ?_⟩
      · have : diffs (.F a) (.F b) = [0] := by simp [diffs, kids, List.range_succ, hab]
        rw [this]; rfl
      · simp [kids, firstAb, hab]
    | G _ _ => simp [kids] at hk
  | G a b =>
    cases t with
    | L _ => simp [kids] at hk
    | F _ => simp [kids] at hk
    | G c d =>
      by_cases hac : a = c
      · have hbd : b ≠ d := fun q => hne (by rw [hac, q])
        refine ⟨1, b, d, ?_, rfl, rfl, ?_⟩
        · have : diffs (.G a b) (.G c d) = [1] := by simp [diffs, kids, List.range_succ, hac, hbd]
          rw [this]; rfl
        · simp [kids, firstAb, hac, hbd]
      · refine ⟨0, a, c, ?_, rfl, rfl, ?_⟩
        · by_cases hbd : b = d
          · have : diffs (.G a b) (.G c d) = [0] := by simp [diffs, kids, List.range_succ, hac, hbd]
            rw [this]; rfl
          · have : diffs (.G a b) (.G c d) = [0, 1] := by simp [diffs, kids, List.range_succ, hac, hbd]
            rw [this]; rfl
        · simp [kids, firstAb, hac]
theorem plain_kids {t k : Tm} (h : plain t = true) (hk : k ∈ kids t) : plain k = true := by
  cases t with
  | L _ => simp [kids] at hk
  | F t => simp [kids] at hk; subst hk; exact h
  | G s t =>
    simp only [plain, Bool.and_eq_true] at h
    simp [kids] at hk
    rcases hk with rfl | rfl
    · exact h.1
    · exact h.2
theorem same_gt {rk : Tab} {s t : Tm} (h3 : same3 rk s t = true) : gt3 (rkOf rk s) (opOf s) (kids s).length (rkOf rk t) (opOf t) (kids t).length = false := by
  unfold same3 at h3
  simp only [Bool.and_eq_true, beq_iff_eq] at h3
  obtain ⟨⟨h1, h2⟩, h3⟩ := h3
  unfold gt3
  rw [h1, h2, h3]
  simp
theorem says_abv {wt rk : Tab} (W : WOk wt) : ∀ (n : Nat) (s t : Tm), ht s ≤ n → ht s ≤ 3 → plain s = true → plain t = true → says wt rk n s t = abv wt rk s t := by
  intro n
  induction n with
  | zero => intro s t h; have := ht_pos s; omega
  | succ n ih =>
    intro s t hn h3 ps pt
    rw [abv_eq]
    unfold says
    by_cases h0 : (isVar s || decide (s = t)) = true
    · rw [if_pos h0, if_pos (by rw [h0]; rfl)]
    rw [if_neg h0]
    have h0f : (isVar s || decide (s = t)) = false := by simpa using h0
    have hv : isVar s = false := by
      cases q : isVar s with
      | false => rfl
      | true => rw [q] at h0f; cases h0f
    have hne : s ≠ t := fun q => by
      rw [hv, decide_eq_true q] at h0f; cases h0f
    have small := weight_small W ps h3
    have tpos := weight_pos W t
    by_cases hb : bad s t = true
    · have hN : neg wt s t = true := by
        rw [neg_iff W]
        rcases (bad_iff s t).mp hb with q | q
        · right; left; omega
        · right; right; omega
      rw [if_pos (by rw [hN]; rfl), if_pos (by rw [h0f, hb]; rfl), hN]; rfl
    have hbf : bad s t = false := by simpa using hb
    rw [if_neg (c := (isVar s || decide (s = t) || bad s t) = true) (by rw [h0f, hbf]; simp)]
    have hok : ¬ (occ .x s < occ .x t ∨ occ .y s < occ .y t) := fun q => hb ((bad_iff s t).mpr q)
    have hN : neg wt s t = decide (weightV wt s < weightV wt t) := by
      rw [Bool.eq_iff_iff, neg_iff W, decide_eq_true_iff]
      omega
    rw [hN, gap_u W]
    by_cases hlt : weightV wt s < weightV wt t
    · rw [if_pos (by rw [decide_eq_true hlt]; rfl), if_pos (by
        have : (weightV wt s != weightV wt t) = true := by rw [bne_iff_ne]; omega
        rw [this]; rfl), decide_eq_true hlt, decide_eq_false (by walk_at "om")]
      rfl
    by_cases hgt : weightV wt t < weightV wt s
    · rw [if_pos (by
        have : decide (weightV wt s - weightV wt t > 0) = true := decide_eq_true (by walk_at "om")
        rw [this]; simp), if_pos (by
        have : (weightV wt s != weightV wt t) = true := by rw [bne_iff_ne]; omega
        rw [this]; rfl), decide_eq_false hlt, decide_eq_true (by walk_at "om")]
      rfl
    have heq : weightV wt s = weightV wt t := by walk_at "om"
    rw [if_neg (by
      have : decide (weightV wt s - weightV wt t > 0) = false := decide_eq_false (by walk_at "om")
      rw [this, decide_eq_false hlt]; simp)]
    have htv : isVar t = false := by
      cases q : isVar t with
      | false => rfl
      | true =>
        exfalso
        have h1 : weightV wt t = 1 ∧ (occ .x t = 1 ∨ occ .y t = 1) := by
          cases t with
          | L l => cases l <;> first | (exfalso; revert q; decide) | exact ⟨by rw [weight_L]; rfl, .inl rfl⟩ | exact ⟨by rw [weight_L]; rfl, .inr rfl⟩
          | F _ => cases q
          | G _ _ => cases q
        cases s with
        | L l =>
          have h2 : occ .x (.L l) = 0 ∧ occ .y (.L l) = 0 := by
            cases l <;> first | (exfalso; revert hv; decide) | exact ⟨rfl, rfl⟩
          omega
        | F a =>
          rw [weight_F] at heq
          have := W.lo (.F a)
          have := weight_pos W a
          omega
        | G a b =>
          rw [weight_G] at heq
          have := W.lo (.G a b)
          have := weight_pos W a
          have := weight_pos W b
          omega
    rw [if_neg (c := (weightV wt s != weightV wt t || isVar t) = true) (by
      have : (weightV wt s != weightV wt t) = false := by rw [heq]; simp
      rw [this, htv]; simp)]
    by_cases h3s : same3 rk s t = true
    · rw [if_neg (by rw [h3s]; simp), same_gt h3s, h3s]
      obtain ⟨i, a, b, hd, ha, hbb, hf⟩ := first_of (abv wt rk) hne h3s
      rw [hd, hf]
      simp only [ha, hbb, Bool.false_or, Bool.true_and]
      have hka := kids_ht (List.mem_of_getElem? ha)
      exact ih a b (by walk_at "om") (by walk_at "om") (plain_kids ps (List.mem_of_getElem? ha)) (plain_kids pt (List.mem_of_getElem? hbb))
    · have h3f : same3 rk s t = false := by simpa using h3s
      rw [if_pos h3f, h3f]
      simp

theorem abv_ctx {wt rk : Tab} (W : WOk wt) {S T s t : Tm} (hS : isVar S = false) (hT : isVar T = false) (heq : S = T ↔ s = t) (hx : occ .x S - occ .x T = occ .x s - occ .x t) (hy : occ .y S - occ .y T = occ .y s - occ .y t)
    (hw : weightV wt S - weightV wt T = weightV wt s - weightV wt t) (h3 : same3 rk S T = true) (hf : s ≠ t → firstAb (abv wt rk) (kids S) (kids T) = abv wt rk s t) : abv wt rk S T = abv wt rk s t := by
  have hbad : bad S T = bad s t := by
    rw [Bool.eq_iff_iff, bad_iff, bad_iff]
    omega
  rw [abv_eq wt rk S T, hS, hT, hbad, same_gt h3, h3]
  by_cases hst : s = t
  · rw [if_pos (by rw [decide_eq_true (heq.mpr hst)]; rfl), abv_eq, if_pos (by rw [decide_eq_true hst]; simp)]
  have hST : ¬ S = T := fun q => hst (heq.mp q)
  rw [decide_eq_false hST]
  by_cases hb : bad s t = true
  · rw [if_pos (by rw [hb]; rfl), abv_eq, if_pos (by rw [hb]; simp)]
  have hbf : bad s t = false := by simpa using hb
  rw [if_neg (by rw [hbf]; simp)]
  have tpos := weight_pos W t
  by_cases hwe : weightV wt s = weightV wt t
  · have : (weightV wt S != weightV wt T) = false := by rw [show weightV wt S = weightV wt T by walk_at "om"]; simp
    rw [if_neg (by rw [this]; simp), hf hst]; rfl
  · have hne : (weightV wt s != weightV wt t) = true := by rw [bne_iff_ne]; exact hwe
    have hNE : (weightV wt S != weightV wt T) = true := by rw [bne_iff_ne]; omega
    have hd : decide (weightV wt S > weightV wt T) = decide (weightV wt s > weightV wt t) := by
      rw [Bool.eq_iff_iff, decide_eq_true_iff, decide_eq_true_iff]; omega
    rw [if_pos (by rw [hNE]; rfl), hd, abv_eq]
    by_cases hv : isVar s = true
    · have h1 : weightV wt s = 1 := by
        cases s with
        | L l => cases l <;> first | (exfalso; revert hv; decide) | (rw [weight_L]; rfl)
        | F _ => cases hv
        | G _ _ => cases hv
      rw [if_pos (by rw [hv]; rfl), decide_eq_false (by walk_at "om")]
    · have hvf : isVar s = false := by simpa using hv
      rw [if_neg (by rw [hvf, decide_eq_false hst, hbf]; simp), if_pos (by rw [hne]; rfl)]
theorem same3_refl (rk : Tab) (s t : Tm) (h1 : opOf s = opOf t) (h2 : (kids s).length = (kids t).length) : same3 rk s t = true := by
  unfold same3 rkOf
  rw [h1, h2]; simp
theorem abv_lay {wt rk : Tab} (W : WOk wt) (s t : Tm) : ∀ (p : List Nat) (r : Tm), (stand r p).isSome = true → abv wt rk (lay r p s) (lay r p t) = abv wt rk s t
  | [], r, _ => by unfold lay; rfl
  | i :: p, r, h => by
    unfold stand at h
    cases r with
    | L l => simp [kids] at h
    | F a =>
      match i, h with
      | 0, h =>
        have ih := abv_lay (rk := rk) W s t p a (by simpa [kids] using h)
        show abv wt rk (.F (lay a p s)) (.F (lay a p t)) = _
        rw [← ih]
        refine abv_ctx W rfl rfl (by simp) rfl rfl ?_ (same3_refl _ _ _ rfl rfl) fun hne => ?_
        · rw [weight_F, weight_F, wOf_F wt (lay a p s) (lay a p t)]; omega
        · simp [kids, firstAb, hne]
      | i + 1, h => simp [kids] at h
    | G a b =>
      match i, h with
      | 0, h =>
        have ih := abv_lay (rk := rk) W s t p a (by simpa [kids] using h)
        show abv wt rk (.G (lay a p s) b) (.G (lay a p t) b) = _
        rw [← ih]
        refine abv_ctx W rfl rfl (by simp) ?_ ?_ ?_ (same3_refl _ _ _ rfl rfl) fun hne => ?_
        · simp only [occ]; omega
        · simp only [occ]; omega
        · rw [weight_G, weight_G, wOf_G wt (lay a p s) b (lay a p t) b]; omega
        · simp [kids, firstAb, hne]
      | 1, h =>
        have ih := abv_lay (rk := rk) W s t p b (by simpa [kids] using h)
        show abv wt rk (.G a (lay b p s)) (.G a (lay b p t)) = _
        rw [← ih]
        refine abv_ctx W rfl rfl (by simp) ?_ ?_ ?_ (same3_refl _ _ _ rfl rfl) fun hne => ?_
        · simp only [occ]; omega
        · simp only [occ]; omega
        · rw [weight_G, weight_G, wOf_G wt a (lay b p s) a (lay b p t)]; omega
        · simp [kids, firstAb, hne]
      | i + 2, h => simp [kids] at h
theorem weight_lay (wt : Tab) (f z : Tm) : ∀ (p : List Nat) (r : Tm), stand r p = some z → weightV wt (lay r p f) = weightV wt r - weightV wt z + weightV wt f
  | [], r, h => by
    unfold stand at h
    cases h
    unfold lay
    omega
  | i :: p, r, h => by
    unfold stand at h
    cases r with
    | L l => simp [kids] at h
    | F a =>
      match i, h with
      | 0, h =>
        have ih := weight_lay wt f z p a (by simpa [kids] using h)
        show weightV wt (.F (lay a p f)) = _
        rw [weight_F, weight_F, wOf_F wt (lay a p f) a, ih]; omega
      | i + 1, h => simp [kids] at h
    | G a b =>
      match i, h with
      | 0, h =>
        have ih := weight_lay wt f z p a (by simpa [kids] using h)
        show weightV wt (.G (lay a p f) b) = _
        rw [weight_G, weight_G, wOf_G wt (lay a p f) b a b, ih]; omega
      | 1, h =>
        have ih := weight_lay wt f z p b (by simpa [kids] using h)
        show weightV wt (.G a (lay b p f)) = _
        rw [weight_G, weight_G, wOf_G wt a (lay b p f) a b, ih]; omega
      | i + 2, h => simp [kids] at h
theorem stand_spot : ∀ (t : Tm) (x : List Nat × Tm), x ∈ partsL t → stand t x.1 = some x.2
  | .L l, x, h => by simp [partsL] at h; subst h; rfl
  | .F t, x, h => by
    simp only [partsL, List.mem_cons, List.mem_map] at h
    rcases h with rfl | ⟨y, hy, rfl⟩
    · rfl
    · exact stand_spot t y hy
  | .G s t, x, h => by
    simp only [partsL, List.mem_cons, List.mem_append, List.mem_map] at h
    rcases h with rfl | ⟨y, hy, rfl⟩ | ⟨y, hy, rfl⟩
    · rfl
    · exact stand_spot s y hy
    · exact stand_spot t y hy
theorem ht_lay (f : Tm) : ∀ (p : List Nat) (r : Tm), ht (lay r p f) ≤ ht r + ht f
  | [], r => by unfold lay; exact Nat.le_add_left _ _
  | i :: p, r => by
    cases r with
    | L l => simp only [lay]; exact Nat.le_add_right _ _
    | F a =>
      match i with
      | 0 => exact Nat.le_trans (Nat.succ_le_succ (ht_lay f p a)) (Nat.le_of_eq (Nat.succ_add _ _).symm)
      | i + 1 => simp only [lay]; exact Nat.le_add_right _ _
    | G a b =>
      match i with
      | 0 => exact Nat.le_trans (Nat.succ_le_succ (Nat.max_le.mpr ⟨Nat.le_trans (ht_lay f p a) (Nat.add_le_add_right (Nat.le_max_left _ _) _), Nat.le_trans (Nat.le_max_right _ _) (Nat.le_add_right _ _)⟩)) (Nat.le_of_eq (Nat.succ_add _ _).symm)
      | 1 => exact Nat.le_trans (Nat.succ_le_succ (Nat.max_le.mpr ⟨Nat.le_trans (Nat.le_max_left _ _) (Nat.le_add_right _ _), Nat.le_trans (ht_lay f p b) (Nat.add_le_add_right (Nat.le_max_right _ _) _)⟩)) (Nat.le_of_eq (Nat.succ_add _ _).symm)
      | i + 2 => simp only [lay]; exact Nat.le_add_right _ _
/-- the weights as the law tells them -/
theorem wok_of {tab : Tab} (h : ∀ x ∈ tab, x.1 ∈ [Lf.a.str, Lf.b.str, Str.ofString "f", Str.ofString "g", Lf.x.str] ∧ 0 < x.2 ∧ x.2 < 5) : WOk (updTab tab Lf.h.str 97) := by
  have val : ∀ k v, tab.lookup k = some v → 0 < v ∧ v < 5 := fun k v q => (h _ (lookup_mem q)).2
  refine ⟨?_, by rw [updTab_get, if_pos rfl], fun t => ?_, fun t ht => ?_⟩
  · rw [updTab_get, if_neg (by decide)]
    cases q : tab.lookup Lf.u.str with
    | none => rfl
    | some v =>
      have : Lf.u.str ∈ [Lf.a.str, Lf.b.str, Str.ofString "f", Str.ofString "g", Lf.x.str] := (h _ (lookup_mem q)).1
      exact absurd this (by decide)
  · unfold wOf
    split
    · omega
    · rw [updTab_get]
      split
      · simp
      · cases q : tab.lookup (opOf t) with
        | none => simp
        | some v => have := val _ _ q; simp; omega
  · have hop : opOf t ≠ Lf.h.str := by
      cases t with
      | L l => cases l <;> first | (exfalso; revert ht; decide) | decide
      | F _ => show Str.ofString "f" ≠ _; decide
      | G _ _ => show Str.ofString "g" ≠ _; decide
    unfold wOf
    split
    · omega
    · rw [updTab_get, if_neg hop]
      cases q : tab.lookup (opOf t) with
      | none => simp
      | some v => have := val _ _ q; simp; omega
/-- the law's own body and names -/
noncomputable def IsLaw (C : Ctx0) (sc : Scope) (body : List Stmt) : Prop := ∃ (name qual : Str) (params : Arguments) (dV kV doc pm cdv ct oc : Value) (an od : Option Addr) (osl : Array (Option Value)),
  (hd.heap_1 C.w.params).lookup 222 = some ⟨oc, od, .func (fnOf name qual params body sc dV kV doc pm an cdv ct), osl⟩
theorem IsLaw.get {C : Ctx0} {sc sc' : Scope} {body body' : List Stmt} (h : IsLaw C sc body) {name qual : Str} {params : Arguments} {dV kV doc pm cdv ct oc : Value} {an od : Option Addr} {osl : Array (Option Value)}
    (ho : (hd.heap_1 C.w.params).lookup 222 = some ⟨oc, od, .func (fnOf name qual params body' sc' dV kV doc pm an cdv ct), osl⟩) {P : Scope → List Stmt → Prop} (hp : P sc' body') : P sc body := by
  obtain ⟨_, _, _, _, _, _, _, _, _, _, _, _, _, h⟩ := h
  rw [h] at ho
  simp only [fnOf, Option.some.injEq, Obj.mk.injEq, Data.func.injEq, FuncData.mk.injEq] at ho
  obtain ⟨_, _, ⟨_, _, _, hb, hs, _⟩, _⟩ := ho
  cases hb
  cases hs
  exact hp
noncomputable def IsTail (C : Ctx0) (sc : Scope) (k : Nat) (tail : List Stmt) : Prop := ∃ body, IsLaw C sc body ∧ tail = body.drop k
theorem IsTail.get {C : Ctx0} {sc sc' : Scope} {k : Nat} {tail body' : List Stmt} (h : IsTail C sc k tail) {name qual : Str} {params : Arguments} {dV kV doc pm cdv ct oc : Value} {an od : Option Addr} {osl : Array (Option Value)}
    (ho : (hd.heap_1 C.w.params).lookup 222 = some ⟨oc, od, .func (fnOf name qual params body' sc' dV kV doc pm an cdv ct), osl⟩) {P : Scope → List Stmt → Prop} (hp : P sc' (body'.drop k)) : P sc tail := by
  obtain ⟨body, hL, rfl⟩ := h
  exact hL.get ho (P := fun s b => P s (b.drop k)) hp
noncomputable abbrev Say : PostN := fun _ _ => PV.none = PV.bool true
noncomputable abbrev Says : Post := fun v _ => v = PV.bool true
theorem nodup_sub : ∀ (l m : List Str), l.Nodup → (∀ x ∈ l, x ∈ m) → l.length ≤ m.length
  | [], _, _, _ => Nat.zero_le _
  | x :: l, m, hn, hs => by
    rw [List.nodup_cons] at hn
    have hx := hs x (.head _)
    have h1 := nodup_sub l (m.erase x) hn.2 fun y hy => by
      refine (List.mem_erase_of_ne fun q => hn.1 (by rw [← q]; exact hy)).mpr (hs y (.tail _ hy))
    rw [List.length_erase_of_mem hx] at h1
    have := List.length_pos_of_mem hx
    rw [List.length_cons]; omega
theorem stand_ht {r : Tm} : ∀ (p : List Nat) (t : Tm), stand t p = some r → ht r ≤ ht t
  | [], t, h => by unfold stand at h; cases h; exact Nat.le_refl _
  | i :: p, t, h => by
    unfold stand at h
    cases hk : (kids t)[i]? with
    | none => rw [hk] at h; cases h
    | some k =>
      rw [hk] at h
      have h1 := stand_ht p k h
      have h2 := kids_ht (List.mem_of_getElem? hk)
      omega
theorem eqvB2 (a b : Bool) : PyData.eqvAll (toPys [.bool a, .bool b]) (toPys [.bool a, .bool b]) = true := by cases a <;> cases b <;> rfl
theorem eqvB4 (a b : Bool) : PyData.eqvAll (toPys [.bool a, .bool a, .bool b, .bool b]) (toPys [.bool a, .bool a, .bool b, .bool b]) = true := by cases a <;> cases b <;> rfl
theorem eqvI : ∀ (l : List Int), PyData.eqvAll (toPys (l.map .int)) (toPys (l.map .int)) = true
  | [] => rfl
  | x :: l => by
    show (PyData.eqv (.int x) (.int x) && PyData.eqvAll (toPys (l.map .int)) (toPys (l.map .int))) = true
    rw [eqvI l]
    simp [PyData.eqv]
theorem Ord.other {wt rk : Tab} {ri kn wi N k : Nat} {st st' : List PObj} (h : Ord wt rk ri kn wi N st) (x : KO [k] st st') (h1 : ri ≠ k) (h2 : wi ≠ k) (h3 : kn ≠ k) : Ord wt rk ri kn wi N st' :=
  ⟨h.r.ko x (by simp [h1]), h.w.ko x (by simp [h2]), h.k.ko x (by simp [h3]), h.rk, h.wk⟩
theorem law_D {C : Ctx0} {sc : Scope} {tail : List Stmt} (L : IsTail C sc 11 tail) (ns : List Int) (rd ri wi k1 k2 : Nat) (wt rk : Tab) (WO : WOk wt) (hrw : rd ≠ wi) (hrr : rd ≠ ri) (hwr : wi ≠ ri) (h12 : k1 ≠ k2) (hr1 : rd ≠ k1) (hr2 : rd ≠ k2) (t1 t2 t3 : Tm) (p1 : plain t1 = true ∧ ht t1 ≤ 3) (p2 : plain t2 = true ∧ ht t2 ≤ 3) (p3 : plain t3 = true ∧ ht t3 ≤ 3) (si pi : Nat) (f1 f2 : Tm) (q : List Nat) (x : List Nat × Tm)
    (hw1 : weightV wt f1 = weightV wt t3 - weightV wt x.snd + weightV wt t1) (hf5 : ht f1 ≤ 7) (hw2 : weightV wt f2 = weightV wt t3 - weightV wt x.snd + weightV wt t2) (hs5 : ht f2 ≤ 7)
    (hc12 : abv wt rk f1 f2 = abv wt rk t1 t2) (hc21 : abv wt rk f2 f1 = abv wt rk t2 t1) (s7 : List PObj) (O7 : Ord wt rk ri k1 wi 0 s7) (P7 : Ord wt rk ri k2 wi 0 s7) :
    X C 40 sc tail [("script", .ilist ns), ("rod", .loc rd), ("weights", .loc wi), ("ranks", .loc ri), ("one", tm t1), ("other", tm t2), ("around", tm t3), ("order", selfPV ri k1 wi), ("late", selfPV ri k2 wi), ("some", .loc si), ("spots", .loc pi), ("path", pathPV q), ("second", tm f2), ("first", tm f1), ("rest", .int (weightV wt t3 - weightV wt x.2))] s7 Say Says := by
  refine L.get (by k_is) (P := fun sc tl => X C 40 sc tl _ s7 Say Says) ?_
  dsimp only [List.drop]
  have q1 := p1.2
  have q2 := p2.2
  have q3 := p3.2
  walk_at "py"
  refine ⟨⟨_, rfl, rfl⟩, ?_⟩
  walk_at "py"
  refine CF.go ((weight_spec (n := 10) O7.w f1 (by walk_at "om") (by walk_at "om"))) (by walk_at "om") fun s8 hko8 => ?_
  replace O7 := O7.ko hko8
  replace P7 := P7.ko hko8
  clear hko8
  walk_at "py"
  refine ⟨⟨_, rfl, rfl⟩, ?_⟩
  walk_at "py"
  refine CF.go ((weight_spec (n := 10) O7.w t1 (by walk_at "om") (by walk_at "om"))) (by walk_at "om") fun s9 hko8 => ?_
  replace O7 := O7.ko hko8
  replace P7 := P7.ko hko8
  clear hko8
  walk_at "py"
  refine ⟨⟨_, rfl, rfl⟩, ?_⟩
  walk_at "py"
  refine CF.go ((weight_spec (n := 10) O7.w f2 (by walk_at "om") (by walk_at "om"))) (by walk_at "om") fun s10 hko8 => ?_
  replace O7 := O7.ko hko8
  replace P7 := P7.ko hko8
  clear hko8
  walk_at "py"
  refine ⟨⟨_, rfl, rfl⟩, ?_⟩
  walk_at "py"
  refine CF.go ((weight_spec (n := 10) O7.w t2 (by walk_at "om") (by walk_at "om"))) (by walk_at "om") fun s11 hko8 => ?_
  replace O7 := O7.ko hko8
  replace P7 := P7.ko hko8
  clear hko8
  walk_at "py"
  refine ⟨by simp, ?_⟩
  have e1 : weightV wt f1 - weightV wt t1 = weightV wt t3 - weightV wt x.2 := by walk_at "om"
  have e2 : weightV wt f2 - weightV wt t2 = weightV wt t3 - weightV wt x.2 := by walk_at "om"
  rw [e1, e2]
  walk_at "py"
  refine ⟨by simp, ?_⟩
  refine Op2.neL (get_app get_new) get_new ?_ ?_ ?_
  · intro p hp
    simp only [List.mem_cons, List.not_mem_nil, or_false] at hp
    rcases hp with rfl | rfl <;> rfl
  · intro p hp
    simp only [List.mem_cons, List.not_mem_nil, or_false] at hp
    rcases hp with rfl | rfl <;> rfl
  have ee : PyData.eqvAll (toPys [.int (weightV wt t3 - weightV wt x.2), .int (weightV wt t3 - weightV wt x.2)]) (toPys [.int (weightV wt t3 - weightV wt x.2), .int (weightV wt t3 - weightV wt x.2)]) = true := eqvI [weightV wt t3 - weightV wt x.2, weightV wt t3 - weightV wt x.2]
  rw [ee]
  refine ⟨_, rfl, fun hb => (by cases hb), fun _ => ?_⟩
  have hkoE := (KO.app [] s11 [PObj.list [.int (weightV wt t3 - weightV wt x.2), .int (weightV wt t3 - weightV wt x.2)]]).trans (KO.app [] _ [PObj.list [.int (weightV wt t3 - weightV wt x.2), .int (weightV wt t3 - weightV wt x.2)]])
  have O8 := O7.ko hkoE
  have P8 := P7.ko hkoE
  clear hkoE O7 P7 ee e1 e2 hw1 hw2
  generalize s11 ++ [PObj.list [.int (weightV wt t3 - weightV wt x.2), .int (weightV wt t3 - weightV wt x.2)]] ++ [PObj.list [.int (weightV wt t3 - weightV wt x.2), .int (weightV wt t3 - weightV wt x.2)]] = s12 at *
  walk_at "py"
  refine CF.go ((says_spec 3 t1 t2 s12 p1.2 (by walk_at "om") (by walk_at "om") O8.w O8.r)) (by walk_at "om") fun s13 hko8 => ?_
  rw [says_abv WO 3 t1 t2 p1.2 p1.2 p1.1 p2.1]
  replace O8 := O8.ko hko8
  replace P8 := P8.ko hko8
  clear hko8
  walk_at "py"
  refine CF.go ((says_spec 3 t2 t1 s13 p2.2 (by walk_at "om") (by walk_at "om") O8.w O8.r)) (by walk_at "om") fun s14 hko8 => ?_
  rw [says_abv WO 3 t2 t1 p2.2 p2.2 p2.1 p1.1]
  replace O8 := O8.ko hko8
  replace P8 := P8.ko hko8
  clear hko8
  walk_at "py"
  refine ⟨by simp, ?_⟩
  have hE : (s14 ++ [PObj.list [.bool (abv wt rk t1 t2), .bool (abv wt rk t2 t1)]])[s14.length]? = some (.list [.bool (abv wt rk t1 t2), .bool (abv wt rk t2 t1)]) := get_new
  have hkoE := KO.app [] s14 [PObj.list [.bool (abv wt rk t1 t2), .bool (abv wt rk t2 t1)]]
  replace O8 := O8.ko hkoE
  replace P8 := P8.ko hkoE
  clear hkoE
  generalize hdu : s14.length = du at *
  generalize s14 ++ [PObj.list [.bool (abv wt rk t1 t2), .bool (abv wt rk t2 t1)]] = s15 at *
  have hd1 : du ≠ k1 := by
    rintro rfl
    obtain ⟨kvs, h, _⟩ := O8.k
    rw [hE] at h; cases h
  have hd2 : du ≠ k2 := by
    rintro rfl
    obtain ⟨kvs, h, _⟩ := P8.k
    rw [hE] at h; cases h
  have hri1 := O8.rk
  have hwi1 := O8.wk
  have hri2 := P8.rk
  have hwi2 := P8.wk
  walk_at "py"
  refine ⟨⟨_, rfl, rfl⟩, ?_⟩
  walk_at "py"
  refine CF.go3 (((above_spec (C := C) (wt := wt) (rk := rk) (ri := ri) (kn := k1) (wi := wi) (ht t1) t1 t2 (Nat.le_refl _) (by walk_at "om") (by walk_at "om")) _ s15 (by walk_at "om") O8)) (by walk_at "om") fun s16 hk hko8 => ?_
  replace O8 := O8.step hko8 hk
  replace P8 := P8.other hko8 hri1 hwi1 (by walk_at "om")
  replace hE := hko8.2 _ _ (by simp only [List.mem_singleton]; omega) hE
  clear hk hko8
  walk_at "py"
  refine ⟨⟨_, rfl, rfl⟩, ?_⟩
  walk_at "py"
  refine CF.go3 (((above_spec (C := C) (wt := wt) (rk := rk) (ri := ri) (kn := k1) (wi := wi) (ht t2) t2 t1 (Nat.le_refl _) (by walk_at "om") (by walk_at "om")) _ s16 (by walk_at "om") O8)) (by walk_at "om") fun s17 hk hko8 => ?_
  replace O8 := O8.step hko8 hk
  replace P8 := P8.other hko8 hri1 hwi1 (by walk_at "om")
  replace hE := hko8.2 _ _ (by simp only [List.mem_singleton]; omega) hE
  clear hk hko8
  walk_at "py"
  refine ⟨by simp, ?_⟩
  walk_at "py"
  refine Op2.neL get_new (get_app hE) ?_ ?_ ?_
  · intro p hp
    simp only [List.mem_cons, List.not_mem_nil, or_false] at hp
    rcases hp with rfl | rfl <;> rfl
  · intro p hp
    simp only [List.mem_cons, List.not_mem_nil, or_false] at hp
    rcases hp with rfl | rfl <;> rfl
  rw [eqvB2]
  refine ⟨_, rfl, fun hb => (by cases hb), fun _ => ?_⟩
  have hkoE := KO.app [] s17 [PObj.list [.bool (abv wt rk t1 t2), .bool (abv wt rk t2 t1)]]
  replace O8 := O8.ko hkoE
  replace P8 := P8.ko hkoE
  replace hE := hkoE.get hE
  clear hkoE
  generalize s17 ++ [PObj.list [.bool (abv wt rk t1 t2), .bool (abv wt rk t2 t1)]] = s18 at *
  walk_at "py"
  refine ⟨⟨_, rfl, rfl⟩, ?_⟩
  walk_at "py"
  refine CF.go3 (((above_spec (C := C) (wt := wt) (rk := rk) (ri := ri) (kn := k1) (wi := wi) (ht f1) f1 f2 (Nat.le_refl _) (by walk_at "om") (by walk_at "om")) _ s18 (by walk_at "om") O8)) (by walk_at "om") fun s19 hk hko8 => ?_
  replace O8 := O8.step hko8 hk
  replace P8 := P8.other hko8 hri1 hwi1 (by walk_at "om")
  replace hE := hko8.2 _ _ (by simp only [List.mem_singleton]; omega) hE
  clear hk hko8
  walk_at "py"
  refine ⟨⟨_, rfl, rfl⟩, ?_⟩
  walk_at "py"
  refine CF.go3 (((above_spec (C := C) (wt := wt) (rk := rk) (ri := ri) (kn := k1) (wi := wi) (ht f2) f2 f1 (Nat.le_refl _) (by walk_at "om") (by walk_at "om")) _ s19 (by walk_at "om") O8)) (by walk_at "om") fun s20 hk hko8 => ?_
  replace O8 := O8.step hko8 hk
  replace P8 := P8.other hko8 hri1 hwi1 (by walk_at "om")
  replace hE := hko8.2 _ _ (by simp only [List.mem_singleton]; omega) hE
  clear hk hko8
  walk_at "py"
  refine ⟨by simp, ?_⟩
  rw [hc12, hc21]
  walk_at "py"
  refine Op2.neL get_new (get_app hE) ?_ ?_ ?_
  · intro p hp
    simp only [List.mem_cons, List.not_mem_nil, or_false] at hp
    rcases hp with rfl | rfl <;> rfl
  · intro p hp
    simp only [List.mem_cons, List.not_mem_nil, or_false] at hp
    rcases hp with rfl | rfl <;> rfl
  rw [eqvB2]
  refine ⟨_, rfl, fun hb => (by cases hb), fun _ => ?_⟩
  have hkoE := KO.app [] s20 [PObj.list [.bool (abv wt rk t1 t2), .bool (abv wt rk t2 t1)]]
  replace O8 := O8.ko hkoE
  replace P8 := P8.ko hkoE
  replace hE := hkoE.get hE
  clear hkoE
  generalize s20 ++ [PObj.list [.bool (abv wt rk t1 t2), .bool (abv wt rk t2 t1)]] = s21 at *
  walk_at "py"
  refine ⟨⟨_, rfl, rfl⟩, ?_⟩
  walk_at "py"
  refine CF.go3 (((above_spec (C := C) (wt := wt) (rk := rk) (ri := ri) (kn := k2) (wi := wi) (ht f2) f2 f1 (Nat.le_refl _) (by walk_at "om") (by walk_at "om")) _ s21 (by walk_at "om") P8)) (by walk_at "om") fun s22 hk hko8 => ?_
  replace P8 := P8.step hko8 hk
  replace O8 := O8.other hko8 hri2 hwi2 (by walk_at "om")
  replace hE := hko8.2 _ _ (by simp only [List.mem_singleton]; omega) hE
  clear hk hko8
  walk_at "py"
  refine ⟨⟨_, rfl, rfl⟩, ?_⟩
  walk_at "py"
  refine CF.go3 (((above_spec (C := C) (wt := wt) (rk := rk) (ri := ri) (kn := k2) (wi := wi) (ht t2) t2 t1 (Nat.le_refl _) (by walk_at "om") (by walk_at "om")) _ s22 (by walk_at "om") P8)) (by walk_at "om") fun s23 hk hko8 => ?_
  replace P8 := P8.step hko8 hk
  replace O8 := O8.other hko8 hri2 hwi2 (by walk_at "om")
  replace hE := hko8.2 _ _ (by simp only [List.mem_singleton]; omega) hE
  clear hk hko8
  walk_at "py"
  refine ⟨⟨_, rfl, rfl⟩, ?_⟩
  walk_at "py"
  refine CF.go3 (((above_spec (C := C) (wt := wt) (rk := rk) (ri := ri) (kn := k2) (wi := wi) (ht f1) f1 f2 (Nat.le_refl _) (by walk_at "om") (by walk_at "om")) _ s23 (by walk_at "om") P8)) (by walk_at "om") fun s24 hk hko8 => ?_
  replace P8 := P8.step hko8 hk
  replace O8 := O8.other hko8 hri2 hwi2 (by walk_at "om")
  replace hE := hko8.2 _ _ (by simp only [List.mem_singleton]; omega) hE
  clear hk hko8
  walk_at "py"
  refine ⟨⟨_, rfl, rfl⟩, ?_⟩
  walk_at "py"
  refine CF.go3 (((above_spec (C := C) (wt := wt) (rk := rk) (ri := ri) (kn := k2) (wi := wi) (ht t1) t1 t2 (Nat.le_refl _) (by walk_at "om") (by walk_at "om")) _ s24 (by walk_at "om") P8)) (by walk_at "om") fun s25 hk hko8 => ?_
  replace P8 := P8.step hko8 hk
  replace O8 := O8.other hko8 hri2 hwi2 (by walk_at "om")
  replace hE := hko8.2 _ _ (by simp only [List.mem_singleton]; omega) hE
  clear hk hko8
  walk_at "py"
  refine ⟨by simp, ?_⟩
  rw [hc12, hc21]
  have hL : (s25 ++ [PObj.list [.bool (abv wt rk t2 t1), .bool (abv wt rk t2 t1), .bool (abv wt rk t1 t2), .bool (abv wt rk t1 t2)]])[s25.length]? = some (.list [.bool (abv wt rk t2 t1), .bool (abv wt rk t2 t1), .bool (abv wt rk t1 t2), .bool (abv wt rk t1 t2)]) := get_new
  replace hE := get_app (gb := [PObj.list [.bool (abv wt rk t2 t1), .bool (abv wt rk t2 t1), .bool (abv wt rk t1 t2), .bool (abv wt rk t1 t2)]]) hE
  clear O8 P8
  generalize (s25 ++ [PObj.list [.bool (abv wt rk t2 t1), .bool (abv wt rk t2 t1), .bool (abv wt rk t1 t2), .bool (abv wt rk t1 t2)]]) = s26 at *
  generalize s25.length = li at *
  walk_at "py"
  refine ItemOp.list hE (by decide) (p := .bool (abv wt rk t2 t1)) rfl ?_
  walk_at "py"
  refine ⟨by simp, ?_⟩
  walk_at "py"
  refine Op2.mulL get_new ?_
  walk_at "py"
  refine ItemOp.list (get_app (get_app hE)) (by decide) (p := .bool (abv wt rk t1 t2)) rfl ?_
  walk_at "py"
  refine ⟨by simp, ?_⟩
  walk_at "py"
  refine Op2.mulL get_new ?_
  refine Op2.addL (get_app (get_app get_new)) get_new (by simp) ?_
  refine Op2.eqL (get_app (get_app (get_app (get_app (get_app hL))))) get_new ?_ ?_ ?_
  · intro p hp
    simp only [List.mem_cons, List.not_mem_nil, or_false] at hp
    rcases hp with rfl | rfl | rfl | rfl <;> rfl
  · intro p hp
    simp only [List.cons_append, List.nil_append, List.mem_cons, List.not_mem_nil, or_false] at hp
    rcases hp with rfl | rfl | rfl | rfl <;> rfl
  show PV.bool (PyData.eqvAll (toPys [.bool (abv wt rk t2 t1), .bool (abv wt rk t2 t1), .bool (abv wt rk t1 t2), .bool (abv wt rk t1 t2)]) (toPys [.bool (abv wt rk t2 t1), .bool (abv wt rk t2 t1), .bool (abv wt rk t1 t2), .bool (abv wt rk t1 t2)])) = PV.bool true
  rw [eqvB4]
theorem law_C {C : Ctx0} {sc : Scope} {tail : List Stmt} (L : IsTail C sc 7 tail) (ns : List Int) (rd ri wi k1 k2 : Nat) (wt rk : Tab) (WO : WOk wt) (hrw : rd ≠ wi) (hrr : rd ≠ ri) (hwr : wi ≠ ri) (h12 : k1 ≠ k2) (hr1 : rd ≠ k1) (hr2 : rd ≠ k2) (t1 t2 t3 : Tm) (p1 : plain t1 = true ∧ ht t1 ≤ 3) (p2 : plain t2 = true ∧ ht t2 ≤ 3) (p3 : plain t3 = true ∧ ht t3 ≤ 3) (si : Nat) (s0 : List PObj) (R0 : RodAt s0 rd (9 + 7 * 3)) (O0 : Ord wt rk ri k1 wi 0 s0) (P0 : Ord wt rk ri k2 wi 0 s0) :
    X C 40 sc tail [("script", .ilist ns), ("rod", .loc rd), ("weights", .loc wi), ("ranks", .loc ri), ("one", tm t1), ("other", tm t2), ("around", tm t3), ("order", selfPV ri k1 wi), ("late", selfPV ri k2 wi), ("some", .loc si)] s0 Say Says := by
  refine L.get (by k_is) (P := fun sc tl => X C 40 sc tl _ s0 Say Says) ?_
  dsimp only [List.drop]
  have q1 := p1.2
  have q2 := p2.2
  have q3 := p3.2
  have hri1 := O0.rk
  have hwi1 := O0.wk
  have hri2 := P0.rk
  have hwi2 := P0.wk
  walk_at "py"
  refine CF.goL ((spots_spec (ht t3) t3 s0 (Nat.le_refl _) (by walk_at "om"))) (by walk_at "om") fun pi s1 hsp hko1 => ?_
  have R1 := R0.ko hko1
  have O1 := O0.ko hko1
  have P1 := P0.ko hko1
  clear R0 O0 P0 hko1
  have hll := partsL_len t3
  have hp2 := Nat.pow_le_pow_right (n := 2) (by walk_at "om") p3.2
  have h28 : 2 ^ 3 = 8 := by decide
  have hlen : (spotsL t3).length = (partsL t3).length := List.length_map ..
  have hpos : 0 < (spotsL t3).length := by rw [hlen, partsL_eq]; simp
  have hpr : pi ≠ rd := by
    rintro rfl
    obtain ⟨c, ep, cells, k, h1, _⟩ := R1
    rw [hsp] at h1; cases h1
  walk_at "py"
  refine OpN.lenL hsp (by rw [List.length_map]; omega) ?_
  rw [List.length_map]
  walk_at "py"
  refine ((cut_spec (n := 0) (m := ((spotsL t3).length : Int)) (by walk_at "om") (by walk_at "om") (by walk_at "om") R1).up (by walk_at "om")).mono fun v s2 hv => ?_
  obtain ⟨r', rfl, hr0, hrm, R2, hko2⟩ := hv
  obtain ⟨r, rfl⟩ : ∃ r : Nat, r' = r := ⟨r'.toNat, by walk_at "om"⟩
  have hrl : r < (spotsL t3).length := by walk_at "om"
  have hsp2 := hko2.2 _ _ (by simp [hpr]) hsp
  have O2 := O1.other hko2 (by walk_at "om") (by walk_at "om") (by walk_at "om")
  have P2 := P1.other hko2 (by walk_at "om") (by walk_at "om") (by walk_at "om")
  clear O1 P1 R1 R2 hko2
  obtain ⟨q, hq⟩ : ∃ q, (spotsL t3)[r]? = some q := ⟨_, List.getElem?_eq_getElem hrl⟩
  refine ItemOp.list hsp2 (by walk_at "om") (p := pathPV q) (by rw [List.getElem?_map, hq]; rfl) ?_
  obtain ⟨x, hx1, hx2⟩ := List.mem_map.mp (List.mem_of_getElem? hq)
  have hst : stand t3 q = some x.2 := by rw [← hx2]; exact stand_spot t3 x hx1
  have hql : q.length < ht t3 := by rw [← hx2]; exact path_len t3 x hx1
  have hxh : ht x.2 ≤ 7 := by have := stand_ht q t3 hst; omega
  clear hx1 hx2 hq hrl hsp hsp2 hpos hlen hll hr0 hrm
  walk_at "py"
  refine X1.assignT2 (fun e => rfl) (fun env e hk => ?_) (by decide) (by decide) ?_
  · unfold swappedStores Env.blockKind Env.kindOf
    rw [hk, e]
    rfl
  walk_at "py"
  refine CF.go0 ((laid_spec t1 q 10 t3 s2 (by walk_at "om") (by walk_at "om") (by rw [hst]; rfl))) (by walk_at "om") ?_
  walk_at "py"
  refine CF.go0 ((laid_spec t2 q 10 t3 _ (by walk_at "om") (by walk_at "om") (by rw [hst]; rfl))) (by walk_at "om") ?_
  walk_at "py"
  refine ⟨by simp, _, _, rfl, ?_⟩
  have hw1 := weight_lay wt t1 x.2 q t3 hst
  have hw2 := weight_lay wt t2 x.2 q t3 hst
  have hc12 := abv_lay (rk := rk) WO t1 t2 q t3 (by rw [hst]; rfl)
  have hc21 := abv_lay (rk := rk) WO t2 t1 q t3 (by rw [hst]; rfl)
  have hf5 : ht (lay t3 q t1) ≤ 7 := by have := ht_lay t1 q t3; omega
  have hs5 : ht (lay t3 q t2) ≤ 7 := by have := ht_lay t2 q t3; omega
  generalize lay t3 q t1 = f1 at *
  generalize lay t3 q t2 = f2 at *
  walk_at "py"
  refine ⟨⟨_, rfl, rfl⟩, ?_⟩
  walk_at "py"
  refine CF.go ((weight_spec (n := 10) O2.w t3 (by walk_at "om") (by walk_at "om"))) (by walk_at "om") fun s5 hko5 => ?_
  walk_at "py"
  refine ⟨⟨_, rfl, rfl⟩, ?_⟩
  walk_at "py"
  refine CF.go0 ((stand_spec (n := 0) t3 x.2 q hst s5)) (by walk_at "om") ?_
  walk_at "py"
  refine CF.go ((weight_spec (n := 10) (O2.ko hko5).w x.2 (by walk_at "om") (by walk_at "om"))) (by walk_at "om") fun s7 hko7 => ?_
  have O7 := (O2.ko hko5).ko hko7
  have P7 := (P2.ko hko5).ko hko7
  clear O2 P2 hko5 hko7
  refine Op2.subI ?_
  exact law_D ⟨_, ⟨_, _, _, _, _, _, _, _, _, _, _, _, _, by k_is⟩, by rfl⟩ ns rd ri wi k1 k2 wt rk WO hrw hrr hwr h12 hr1 hr2 t1 t2 t3 p1 p2 p3 si pi f1 f2 q x hw1 hf5 hw2 hs5 hc12 hc21 _ O7 P7
theorem law_B {C : Ctx0} {sc : Scope} {tail : List Stmt} (L : IsTail C sc 5 tail) (ns : List Int) (rd ri wi k1 k2 : Nat) (wt rk : Tab) (WO : WOk wt) (hrw : rd ≠ wi) (hrr : rd ≠ ri) (hwr : wi ≠ ri) (h12 : k1 ≠ k2) (hr1 : rd ≠ k1) (hr2 : rd ≠ k2) (t1 t2 t3 : Tm) (p1 : plain t1 = true ∧ ht t1 ≤ 3) (p2 : plain t2 = true ∧ ht t2 ≤ 3) (p3 : plain t3 = true ∧ ht t3 ≤ 3) (st₈ : List PObj) (R8 : RodAt st₈ rd (9 + 7 * 3)) (W8 : TabAt' st₈ wi wt) (K8 : TabAt' st₈ ri rk) (O1 : Ord wt rk ri k1 wi 0 st₈) (O2 : Ord wt rk ri k2 wi 0 st₈) :
    X C 40 sc tail [("script", .ilist ns), ("rod", .loc rd), ("weights", .loc wi), ("ranks", .loc ri), ("one", tm t1), ("other", tm t2), ("around", tm t3), ("order", selfPV ri k1 wi), ("late", selfPV ri k2 wi)] st₈ Say Says := by
  refine L.get (by k_is) (P := fun sc tl => X C 40 sc tl _ st₈ Say Says) ?_
  dsimp only [List.drop]
  have q1 := p1.2
  have q2 := p2.2
  have q3 := p3.2
  walk_at "py"
  refine ⟨by simp, ?_⟩
  have hL9 : (st₈ ++ [PObj.list [tm t1, tm t2, tm t3]])[st₈.length]? = some (.list [tm t1, tm t2, tm t3]) := get_new
  have hko9 := KO.app [] st₈ [PObj.list [tm t1, tm t2, tm t3]]
  generalize hi9 : st₈.length = i9 at *
  generalize (st₈ ++ [PObj.list [tm t1, tm t2, tm t3]]) = st₉ at *
  refine W.comp2 rfl (by decide) (by decide) (by decide) (fun e x => rfl) (fun e x => rfl) (WI.tup ?_)
  walk_at "py"
  refine ⟨by simp, ?_⟩
  refine ⟨_, rfl, trivial, ?_⟩
  refine CT2.inv (all := [t1, t2].map tm) (fun idx acc st' => (∃ ts : List Tm, acc = ts.map tm ∧ ts.length = 3 * idx ∧ ∀ t ∈ ts, ht t ≤ 3) ∧ KO [] st₉ st') ?_ ?_ _ 0 [] _ rfl (Nat.zero_le _) ⟨⟨[], rfl, rfl, by simp⟩, KO.refl _ _⟩ trivial
  · rintro idx p acc st₁ hp ⟨⟨ts, rfl, hts, htp⟩, hko⟩ _
    rw [List.getElem?_map] at hp
    cases hx : [t1, t2][idx]? with
    | none => rw [hx] at hp; cases hp
    | some t =>
      rw [hx] at hp
      obtain rfl : p = tm t := (Option.some.inj hp).symm
      have htt : ht t ≤ 3 := by
        rcases List.mem_cons.mp (List.mem_of_getElem? hx) with rfl | h
        · exact p1.2
        · rw [List.mem_singleton.mp h]; exact p2.2
      have hidx : idx < 2 := by
        have := (List.getElem?_eq_some_iff.mp hx).1
        simpa using this
      refine AsgL.name (by decide) ?_
      show WI C _ _ _ _ [(Str.ofString "t", tm t)] st₁ _
      refine WI.list ?_
      walk_at "py"
      refine CF.go0 ((ways_spec (n := 0))) (by walk_at "om") ?_
      have hl : (st₁ ++ [PObj.list [PV.tup [PV.str Lf.u.str, PV.str Lf.u.str], PV.tup [PV.str Lf.h.str, PV.str Lf.u.str], PV.tup [PV.str Lf.u.str, PV.str Lf.h.str]]])[st₁.length]? = some (.list ([(Lf.u, Lf.u), (Lf.h, Lf.u), (Lf.u, Lf.h)].map fun x => PV.tup [PV.str x.1.str, PV.str x.2.str])) := get_new
      have hko1 : KO [] st₉ (st₁ ++ [PObj.list [PV.tup [PV.str Lf.u.str, PV.str Lf.u.str], PV.tup [PV.str Lf.h.str, PV.str Lf.u.str], PV.tup [PV.str Lf.u.str, PV.str Lf.h.str]]]) := hko.trans (KO.app _ _ _)
      generalize (st₁ ++ [PObj.list [PV.tup [PV.str Lf.u.str, PV.str Lf.u.str], PV.tup [PV.str Lf.h.str, PV.str Lf.u.str], PV.tup [PV.str Lf.u.str, PV.str Lf.h.str]]]) = st₂ at *
      refine ⟨_, _, rfl, hl, hl, by simp; omega, ?_⟩
      refine CT.inv (all := [(Lf.u, Lf.u), (Lf.h, Lf.u), (Lf.u, Lf.h)].map fun x => PV.tup [PV.str x.1.str, PV.str x.2.str]) (fun j ρ' acc st' => (ρ' = [(Str.ofString "t", tm t)] ∨ ∃ a b, ρ' = upd (upd [(Str.ofString "t", tm t)] (Str.ofString "x") a) (Str.ofString "y") b) ∧ (∃ us : List Tm, acc = us.map tm ∧ us.length = 3 * idx + j ∧ ∀ t ∈ us, ht t ≤ 3) ∧ KO [] st₉ st') ?_ ?_ _ 0 _ _ _ rfl (Nat.zero_le _) ⟨.inl rfl, ⟨ts, rfl, hts, htp⟩, hko1⟩ hl
      · rintro j pv ρ'' acc st₃ hp ⟨hρ2, ⟨us, rfl, hus, hup⟩, hko3⟩ hG
        rw [List.getElem?_map] at hp
        cases hx : [(Lf.u, Lf.u), (Lf.h, Lf.u), (Lf.u, Lf.h)][j]? with
        | none => rw [hx] at hp; cases hp
        | some x =>
          rw [hx] at hp
          obtain ⟨p, q⟩ := x
          obtain rfl : pv = PV.tup [PV.str p.str, PV.str q.str] := (Option.some.inj hp).symm
          refine AsgL.tup (fun e => rfl) rfl rfl ?_
          refine AsgO.nameL (fun _ => .head _) (by decide) (AsgO.nameL (fun _ => .head _) (by decide) ?_)
          have e : ∀ a b, upd (upd ρ'' (Str.ofString "x") a) (Str.ofString "y") b = upd (upd [(Str.ofString "t", tm t)] (Str.ofString "x") a) (Str.ofString "y") b := by
            intro a b; rcases hρ2 with rfl | ⟨_, _, rfl⟩ <;> rfl
          refine ⟨fun _ => ?_, fun h => by cases h⟩
          show W C _ _ _ (upd (upd ρ'' (Str.ofString "x") _) (Str.ofString "y") _) st₃ _
          first | refine X.rho (e _) ?_ | refine X.rho (e _ _) ?_ | refine W.rho (e _ _) ?_ | refine W.rho (e _) ?_ | rw [e]
          walk_at "py"
          refine CF.go ((meant_spec p q (ht t) t st₃ (Nat.le_refl _) (by walk_at "om"))) (by walk_at "om") fun st₄ hko4 => ?_
          refine ⟨hko4.get hG, .inr ⟨_, _, by first | exact e _ _ | rfl⟩, ⟨us ++ [mt p q t], by simp, by simp [hus]; omega, fun x hx => ?_⟩, hko3.trans hko4⟩
          rcases List.mem_append.mp hx with hx | hx
          · exact hup x hx
          · rw [List.mem_singleton.mp hx, mt_ht]; exact htt
      · rintro ρ3 acc st₂ ⟨_, ⟨us, rfl, hus, hup⟩, hko2⟩
        exact ⟨trivial, ⟨us, rfl, by rw [hus, List.length_map]; simp; omega, hup⟩, hko2⟩
  rintro acc st₁ ⟨⟨ts, rfl, hts, htp⟩, hko⟩
  have hts6 : ts.length = 6 := by rw [hts, List.length_map]; rfl
  refine Op2.addL (get_app (hko.get hL9)) get_new (by simp [hts6]) ?_
  have hko10 : KO [] st₈ (st₁ ++ [PObj.list (ts.map tm)] ++ [PObj.list ([tm t1, tm t2, tm t3] ++ ts.map tm)]) := hko9.trans (hko.trans ((KO.app _ _ _).trans (KO.app _ _ _)))
  have hS : (st₁ ++ [PObj.list (ts.map tm)] ++ [PObj.list ([tm t1, tm t2, tm t3] ++ ts.map tm)])[(st₁ ++ [PObj.list (ts.map tm)]).length]? = some (.list (([t1, t2, t3] ++ ts).map tm)) := by rw [List.map_append]; exact get_new
  generalize (st₁ ++ [PObj.list (ts.map tm)]).length = si at *
  generalize (st₁ ++ [PObj.list (ts.map tm)] ++ [PObj.list ([tm t1, tm t2, tm t3] ++ ts.map tm)]) = sA at *
  have hus : ([t1, t2, t3] ++ ts).length = 9 := by simp [hts6]
  have hup : ∀ t ∈ [t1, t2, t3] ++ ts, ht t ≤ 3 := fun t h => by
    rcases List.mem_append.mp h with h | h
    · simp only [List.mem_cons, List.not_mem_nil, or_false] at h
      rcases h with rfl | rfl | rfl
      · exact p1.2
      · exact p2.2
      · exact p3.2
    · exact htp t h
  generalize [t1, t2, t3] ++ ts = us at *
  have RA := R8.ko hko10
  have WA := W8.ko hko10 (by simp)
  have KA := K8.ko hko10 (by simp)
  have OA := O1.ko hko10
  have PA := O2.ko hko10
  clear hko10 R8 W8 K8 O1 O2 hko htp hts hts6 hko9 hL9 hi9
  walk_at "py"
  refine WI.list ?_
  walk_at "py"
  refine ⟨_, _, rfl, hS, hS, by rw [List.length_map, hus]; omega, ?_⟩
  refine CT.inv (all := us.map tm) (fun idx ρ' acc st' => (ρ' = [(Str.ofString "order", selfPV ri k1 wi)] ∨ ∃ a, ρ' = upd [(Str.ofString "order", selfPV ri k1 wi)] (Str.ofString "t") a) ∧
    acc = ((us.take idx).map (weightV wt)).map .int ∧ KO [] sA st') ?_ ?_ _ 0 _ [] _ rfl (Nat.zero_le _) ⟨.inl rfl, by simp, KO.refl _ _⟩ hS
  · rintro idx p ρ' acc st₁ hp ⟨hρ, rfl, hko⟩ hG
    rw [List.getElem?_map] at hp
    cases hx : us[idx]? with
    | none => rw [hx] at hp; cases hp
    | some t =>
      rw [hx] at hp
      obtain rfl : p = tm t := (Option.some.inj hp).symm
      have htt := hup t (List.mem_of_getElem? hx)
      refine AsgL.name (by decide) ?_
      have e : ∀ a, upd ρ' (Str.ofString "t") a = upd [(Str.ofString "order", selfPV ri k1 wi)] (Str.ofString "t") a := by
        intro a; rcases hρ with rfl | ⟨_, rfl⟩ <;> rfl
      refine ⟨fun _ => ?_, fun h => by cases h⟩
      refine W.rho (e _) ?_
      walk_at "py"
      refine ⟨⟨_, rfl, rfl⟩, ?_⟩
      walk_at "py"
      refine CF.go ((weight_spec (n := 10) (WA.ko hko (by simp)) t (by walk_at "om") (by walk_at "om"))) (by walk_at "om") fun st₂ hko2 => ?_
      exact ⟨hko2.get hG, .inr ⟨_, by first | exact e _ | exact hρ' _ | rfl⟩, by rw [List.take_add_one, hx]; simp, hko.trans hko2⟩
  rintro ρ1 acc sB ⟨_, rfl, hkoB⟩
  rw [List.length_map, List.take_length]
  have hSC : (sB ++ [PObj.list ((us.map (weightV wt)).map .int)])[si]? = some (.list (us.map tm)) := get_app (hkoB.get hS)
  have hkoC := hkoB.trans (KO.app [] sB [PObj.list ((us.map (weightV wt)).map .int)])
  have hvC : (sB ++ [PObj.list ((us.map (weightV wt)).map .int)])[sB.length]? = some (.list ((us.map (weightV wt)).map .int)) := get_new
  generalize sB.length = vi at *
  generalize (sB ++ [PObj.list ((us.map (weightV wt)).map .int)]) = sC at *
  walk_at "py"
  refine WI.list ?_
  walk_at "py"
  refine ⟨_, _, rfl, hSC, hSC, by rw [List.length_map, hus]; omega, ?_⟩
  refine CT.inv (all := us.map tm) (fun idx ρ' acc st' => (ρ' = [(Str.ofString "weights", PV.loc wi)] ∨ ∃ a, ρ' = upd [(Str.ofString "weights", PV.loc wi)] (Str.ofString "t") a) ∧
    acc = ((us.take idx).map (weightV wt)).map .int ∧ KO [] sC st') ?_ ?_ _ 0 _ [] _ rfl (Nat.zero_le _) ⟨.inl rfl, by simp, KO.refl _ _⟩ hSC
  · rintro idx p ρ' acc st₁ hp ⟨hρ, rfl, hko⟩ hG
    rw [List.getElem?_map] at hp
    cases hx : us[idx]? with
    | none => rw [hx] at hp; cases hp
    | some t =>
      rw [hx] at hp
      obtain rfl : p = tm t := (Option.some.inj hp).symm
      have htt := hup t (List.mem_of_getElem? hx)
      refine AsgL.name (by decide) ?_
      have e : ∀ a, upd ρ' (Str.ofString "t") a = upd [(Str.ofString "weights", PV.loc wi)] (Str.ofString "t") a := by
        intro a; rcases hρ with rfl | ⟨_, rfl⟩ <;> rfl
      refine ⟨fun _ => ?_, fun h => by cases h⟩
      refine W.rho (e _) ?_
      walk_at "py"
      refine CF.go ((heft_spec (n := 10) t (by walk_at "om") ((WA.ko hkoC (by simp)).ko hko (by simp)))) (by walk_at "om") fun st₂ hko2 => ?_
      exact ⟨hko2.get hG, .inr ⟨_, by first | exact e _ | exact hρ' _ | rfl⟩, by rw [List.take_add_one, hx]; simp, hko.trans hko2⟩
  rintro ρ2 acc sD ⟨_, rfl, hkoD⟩
  rw [List.length_map, List.take_length]
  refine Op2.neL (get_app (hkoD.get hvC)) get_new ?_ ?_ ?_
  · intro p hp; obtain ⟨x, _, rfl⟩ := List.mem_map.mp hp; rfl
  · intro p hp; obtain ⟨x, _, rfl⟩ := List.mem_map.mp hp; rfl
  rw [eqvI]
  refine ⟨_, rfl, fun hb => (by cases hb), fun _ => ?_⟩
  have hko0 := (hkoC.trans hkoD).trans (KO.app [] sD [PObj.list ((us.map (weightV wt)).map .int)])
  have R0 := RA.ko hko0
  have O0 := OA.ko hko0
  have P0 := PA.ko hko0
  generalize (sD ++ [PObj.list ((us.map (weightV wt)).map .int)]) = s0 at *
  clear hko0 hkoD hvC hkoC hSC hkoB hS RA WA KA OA PA hup hus
  refine X.nil ?_
  exact law_C ⟨_, ⟨_, _, _, _, _, _, _, _, _, _, _, _, _, by k_is⟩, by rfl⟩ ns rd ri wi k1 k2 wt rk WO hrw hrr hwr h12 hr1 hr2 t1 t2 t3 p1 p2 p3 _ s0 R0 O0 P0
theorem law_spec {C : Ctx0} (ns : List Int) (hl : ns.length ≤ 100) (pf : ((C.prog.main.file : Str) == "/claim/cut.py") = true) (ps : (C.prog.main.scope.names.lookup ("super" : Str)).isSome = false) :
    CF C 41 222 [.ilist ns] [] (fun v st' => v = .bool true) := by
  refine CF.enter (names := ["script"]) (by k_is) (by k_is) rfl (len1 (fun a => by exact rfl)) (by decide) (by decide) (by decide) (by decide) (by decide) (by decide) (by decide) (by decide) ?_
  walk_at "py"
  refine ((rod_spec (n := 0) hl).up (by walk_at "om")).mono fun v st₁ hv => ?_
  obtain ⟨rd, rfl, R1, hko1, _⟩ := hv
  walk_at "py"
  refine X1.assignT (fun e => rfl) (fun env e hk => ?_) ?_
  · unfold swappedStores Env.blockKind Env.kindOf
    rw [hk, e]
    rfl
  walk_at "py"
  refine ⟨by simp, ?_⟩
  walk_at "py"
  have hrd1 : rd < st₁.length := by obtain ⟨c, ep, cells, k, h1, _⟩ := R1; exact get_lt h1
  refine ((told_spec (n := 1) (w := 5) [Str.ofString "a", Str.ofString "b", Str.ofString "f", Str.ofString "g", Str.ofString "?x"] (by decide) (by decide) (by decide) (by decide) (by decide) (by decide) (R1.ko (KO.app _ _ _)) get_new).up (by walk_at "om")).mono fun v st₂ hv => ?_
  obtain ⟨wi, w0, rfl, W2, wnd, wvals, R2, hko2, hwi⟩ := hv
  rw [List.length_append, List.length_singleton] at hwi
  replace hko2 := (KO.app [] st₁ _).any.trans hko2
  have hst2 := hko2.1
  walk_at "py"
  refine ⟨by simp, ?_⟩
  walk_at "py"
  refine ((told_spec (n := 1) (w := 3) [Str.ofString "a", Str.ofString "b", Str.ofString "f", Str.ofString "g"] (by decide) (by decide) (by decide) (by decide) (by decide) (by decide) (R2.ko (KO.app _ _ _)) get_new).up (by walk_at "om")).mono fun v st₃ hv => ?_
  obtain ⟨ri, rk, rfl, K3, rnd, rvals, R3, hko3, hri⟩ := hv
  rw [List.length_append, List.length_singleton] at hri
  replace hko3 := (KO.app [] st₂ _).any.trans hko3
  have hst3 := hko3.1
  have W3 := W2.ko hko3 (by simp only [List.mem_singleton]; omega)
  have hwl2 : wi < st₂.length := by obtain ⟨ep, h1⟩ := W2; exact get_lt h1
  walk_at "py"
  refine ⟨by simp, ?_⟩
  refine Asg.tup (fun e => rfl) rfl rfl ?_
  refine AsgO.nameC (by decide) (AsgO.nameC (by decide) ?_)
  show X C _ _ _ (upd (upd _ (Str.ofString "weights") (PV.loc wi)) (Str.ofString "ranks") (PV.loc ri)) _ _ _
  walk_at "py"
  obtain ⟨ep3, hW3⟩ := W3
  have hwlen : w0.length ≤ 5 := by
    have h1 : (w0.map (·.1)).length ≤ [Str.ofString "a", Str.ofString "b", Str.ofString "f", Str.ofString "g", Str.ofString "?x"].length :=
      nodup_sub _ _ wnd fun x hx => by obtain ⟨y, hy, rfl⟩ := List.mem_map.mp hx; exact (wvals y hy).1
    simpa using h1
  refine SetOp.sd hW3 (by simp [tabPV]; omega) fun ep' => ?_
  rw [tab_upd]
  have WO : WOk (updTab w0 Lf.h.str 97) := wok_of wvals
  have hwpos : ∀ x ∈ updTab w0 Lf.h.str 97, 1 ≤ x.2 := updTab_val (P := fun x => 1 ≤ x.2) (fun x hx => (wvals x hx).2.1) (by decide)
  have hwlen2 : (updTab w0 Lf.h.str 97).length < 64 := by have := updTab_len w0 Lf.h.str 97; omega
  have W4 : TabAt' (st₃.set wi (.sd (tabPV (updTab w0 Lf.h.str 97)) ep')) wi (updTab w0 Lf.h.str 97) := ⟨ep', get_set hW3⟩
  have K4 : TabAt' (st₃.set wi (.sd (tabPV (updTab w0 Lf.h.str 97)) ep')) ri rk := K3.ko (KO.set _ _ _) (by simp only [List.mem_singleton]; omega)
  have R4 : RodAt (st₃.set wi (.sd (tabPV (updTab w0 Lf.h.str 97)) ep')) rd 9 := by
    obtain ⟨c, ep, cells, k, h1, h2, h3, h4, h5⟩ := R3
    refine ⟨c, ep, cells, k, (KO.set _ _ _).2 _ _ (by simp only [List.mem_singleton]; omega) h1, (KO.set _ _ _).2 _ _ (fun q => ?_) h2, h3, h4, h5⟩
    rw [List.mem_singleton.mp q, hW3] at h2; cases h2
  show X C _ _ _ _ (st₃.set wi (.sd (tabPV (updTab w0 Lf.h.str 97)) ep')) _ _
  generalize (st₃.set wi (.sd (tabPV (updTab w0 Lf.h.str 97)) ep')) = st₄ at *
  generalize updTab w0 Lf.h.str 97 = wt at *
  clear hW3 hwlen hko3 hko2 W2 R2 R3 K3 R1 hko1
  have hrw : rd ≠ wi := by walk_at "om"
  have hrr : rd ≠ ri := by walk_at "om"
  have hwr : wi ≠ ri := by walk_at "om"
  clear hst2 hst3 hwl2 hwi hri hrd1
  refine X.cons (X1.assignT (fun e => rfl) (fun env e hk => ?_) ?_)
  · unfold swappedStores
    rfl
  refine W.comp rfl (by decide) (by decide) (by decide) (fun e x => rfl) (WI.range1 (by decide) (by k_is) (by first | boot_by_name | rfl | kernel_rfl) (by decide) (by decide) (fun e => rfl) (fun e => rfl) (fun e => rfl) ?_)
  walk_at "py"
  refine ⟨3, rfl, by decide, trivial, by decide, ?_⟩
  refine CT.inv (all := (List.range 3).map fun (i : Nat) => PV.int (0 + i)) (fun idx ρ' acc st' => (ρ' = [(Str.ofString "rod", PV.loc rd)] ∨ ∃ a, ρ' = upd [(Str.ofString "rod", PV.loc rd)] (Str.ofString "lap") a) ∧
    (∃ ts : List Tm, acc = ts.map tm ∧ ts.length = idx ∧ ∀ t ∈ ts, plain t = true ∧ ht t ≤ 3) ∧ RodAt st' rd (9 + 7 * idx) ∧ KO [rd] st₄ st') ?_ ?_ _ 0 _ [] _ rfl (Nat.zero_le _) ⟨.inl rfl, ⟨[], rfl, rfl, by simp⟩, R4, KO.refl _ _⟩ trivial
  · rintro idx p ρ' acc st₁ hp ⟨hρ, ⟨ts, rfl, hts, htp⟩, R1, hko⟩ hG
    have hidx : idx < 3 := by
      have := (List.getElem?_eq_some_iff.mp hp).1
      simpa using this
    refine AsgL.name (by decide) ?_
    have e : ∀ a, upd ρ' (Str.ofString "lap") a = upd [(Str.ofString "rod", PV.loc rd)] (Str.ofString "lap") a := by
      intro a; rcases hρ with rfl | ⟨_, rfl⟩ <;> rfl
    refine ⟨fun _ => ?_, fun h => by cases h⟩
    refine W.rho (e _) ?_
    walk_at "py"
    refine ((grown_spec 2 3 _ rd (9 + 7 * idx) (by walk_at "om") (by walk_at "om") R1).up (by walk_at "om")).mono fun v st₂ hv => ?_
    obtain ⟨t, rfl, hp1, hh1, R2, hko2⟩ := hv
    refine ⟨trivial, .inr ⟨_, by first | exact e _ | exact hρ' _ | rfl⟩, ⟨ts ++ [t], by simp, by simp [hts], fun x hx => ?_⟩, R2.le (by walk_at "om"), hko.trans hko2⟩
    rcases List.mem_append.mp hx with hx | hx
    · exact htp x hx
    · rw [List.mem_singleton.mp hx]; exact ⟨hp1, hh1⟩
  rintro ρ' acc st₅ ⟨_, ⟨ts, rfl, hts, htp⟩, R5, hko5⟩
  have h3 : ((List.range 3).map fun (i : Nat) => PV.int (0 + i)).length = 3 := by decide
  rw [h3] at hts R5
  obtain ⟨t1, t2, t3, rfl⟩ : ∃ a b c, ts = [a, b, c] := by
    match ts, hts with
    | [a, b, c], _ => exact ⟨a, b, c, rfl⟩
  have p1 := htp t1 (by simp)
  have p2 := htp t2 (by simp)
  have p3 := htp t3 (by simp)
  clear htp hts h3
  refine Asg.tup (fun e => rfl) (ps := [tm t1, tm t2, tm t3]) get_new rfl ?_
  refine AsgO.nameC (by decide) (AsgO.nameC (by decide) (AsgO.nameC (by decide) ?_))
  show X C _ _ _ (upd (upd (upd _ (Str.ofString "one") (tm t1)) (Str.ofString "other") (tm t2)) (Str.ofString "around") (tm t3)) _ _ _
  have R6 := R5.ko (KO.app [] st₅ [PObj.list ([t1, t2, t3].map tm)])
  have hko6 := hko5.trans (KO.app [rd] st₅ [PObj.list ([t1, t2, t3].map tm)])
  have W6 := W4.ko hko6 (by simp only [List.mem_singleton]; omega)
  have K6 := K4.ko hko6 (by simp only [List.mem_singleton]; omega)
  show X C _ _ _ _ (st₅ ++ [PObj.list ([t1, t2, t3].map tm)]) _ _
  generalize (st₅ ++ [PObj.list ([t1, t2, t3].map tm)]) = st₆ at *
  clear hko6 hko5 R5 W4 K4 R4
  refine X.cons (X1.assignT (fun e => rfl) (fun env e hk => ?_) ?_)
  · unfold swappedStores Env.blockKind Env.kindOf
    rw [hk, e]
    rfl
  walk_at "py"
  have hrl6 : ri < st₆.length := by obtain ⟨ep, h1⟩ := K6; exact get_lt h1
  have hwl6 : wi < st₆.length := by obtain ⟨ep, h1⟩ := W6; exact get_lt h1
  have hdl6 : rd < st₆.length := by obtain ⟨c, ep, cells, k, h1, _⟩ := R6; exact get_lt h1
  refine ((make_spec (n := 30) W6 hwpos hwlen2 pf ps).up (by walk_at "om")).mono fun v st₇ hv => ?_
  obtain ⟨k1, rfl, hk1, hko7, hk1l⟩ := hv
  have hk17 : k1 < st₇.length := get_lt hk1
  walk_at "py"
  refine ((make_spec (n := 30) (W6.ko hko7 (by simp)) hwpos hwlen2 pf ps).up (by walk_at "om")).mono fun v st₈ hv => ?_
  obtain ⟨k2, rfl, hk2, hko8, hk2l⟩ := hv
  replace hk1 := hko8.get hk1
  have R8 := (R6.ko hko7).ko hko8
  have W8 := (W6.ko hko7 (by simp)).ko hko8 (by simp)
  have K8 := (K6.ko hko7 (by simp)).ko hko8 (by simp)
  have O1 : Ord wt rk ri k1 wi 0 st₈ := ⟨K8, W8, ⟨[], hk1, fun s t q h => (by simp [tget] at h), Nat.le_refl _⟩, by walk_at "om", by walk_at "om"⟩
  have O2 : Ord wt rk ri k2 wi 0 st₈ := ⟨K8, W8, ⟨[], hk2, fun s t q h => (by simp [tget] at h), Nat.le_refl _⟩, by walk_at "om", by walk_at "om"⟩
  have h12 : k1 ≠ k2 := by walk_at "om"
  have hr1 : rd ≠ k1 := by walk_at "om"
  have hr2 : rd ≠ k2 := by walk_at "om"
  clear hk1 hk2 hko8 hko7 R6 K6 W6 hrl6 hwl6 hdl6 hk1l hk2l hk17 hwpos hwlen2
  walk_at "py"
  refine ⟨by simp, ?_⟩
  refine Asg.tup (fun e => rfl) rfl rfl ?_
  refine AsgO.nameC (by decide) (AsgO.nameC (by decide) ?_)
  show X C _ _ _ (upd (upd _ (Str.ofString "order") (selfPV ri k1 wi)) (Str.ofString "late") (selfPV ri k2 wi)) _ _ _
  exact law_B ⟨_, ⟨_, _, _, _, _, _, _, _, _, _, _, _, _, by k_is⟩, by rfl⟩ ns rd ri wi k1 k2 wt rk WO hrw hrr hwr h12 hr1 hr2 t1 t2 t3 p1 p2 p3 _ R8 W8 K8 O1 O2
theorem the_law : PySem.Challenge.rw_pq0031_01.Holds := hd (by
  intro w s₀ s₁ mg mb G Y fa o pm cd doc dV kV ho hd1 hcd hD hmg hg args vals as hpre hlay hrd hwl hlo
  have KX := kIn_of Y
  refine Ground.open G ?_
  intro T B D TE TW
  clear hD hcd hd1
  wrow_args hpre hlay hrd hwl hlo
  rename_i ns _ _ _ _ _ _ _ la vs _ hL _ _ _ hI _ hcond _
  have e1 : mg (Str.ofString "law") = some (.ref 222) := mg_of KX T.g (by k_is)
  have e2 : mg (Str.ofString "law") = some (.ref fa) := hmg
  obtain rfl : fa = 222 := by
    rw [e1] at e2
    injection e2 with e2
    injection e2 with e2
    exact e2.symm
  obtain ⟨ol, h1, h2, nl, h3⟩ := hL
  have hlen : ns.length ≤ 100 := by walk_at "om"
  refine wpAny_mono (law_spec (C := ⟨PySem.Challenge.rw_pq0031_01.row.prog, w, ExcName.means s₀.heap, mg, mb, s₁.heap, ⟨KX, T⟩⟩) ns hlen (by rfl) (by rfl) callerA s₁.heap.get? [] s₁ [.ref la] ⟨rfl, by decide +kernel, by decide +kernel⟩ (fun a b e => e)
    ⟨fun a b e => e, List.nodup_nil, fun _ h => (by cases h), fun _ h => (by cases h), rfl, fun n a po h => (by simp at h)⟩ (.cons (.ilist h1 h2 h3 hI) .nil)) (fun v s' r => ?_) fun a b f => f.elim
  obtain ⟨g', ads', pv, st', nx, sm, vr, rfl, e'⟩ := r
  cases vr
  refine GoodW.toG ⟨.inl ⟨_, .bool true, [], rfl, fun e => rfl, ReadsW.bool true, ?_, fun _ => ⟨List.nodup_nil, fun _ hm => (nomatch hm)⟩⟩, fun b o e => nx.keep b o (by simp) (by simp) e, by rw [e'], by rw [e']; exact hg⟩
  first
    | rfl
    | wrow_post)
end Mine
theorem PySem.Challenge.cw_pq0031_01_holds : PySem.Challenge.rw_pq0031_01.Holds :=
  Mine.the_law
