import PyProof.Rows.All
import Wide.All
import OpenK.AllK
import Wide.FinOn
import HandS.ForMost
import HandS.IsInst
import HandS.Style
import HandS.Wide
import HandS.Defaults
import HandS.Conv
import KE.DataEq
import PyProof.Rows.SeqMore
import HandS.Head0
import PySem.Challenge.RW_gridplots_k43_farey_fans
import KE.KStateDown
import Lean
import HandS.WordsExc
import HandS.Head1
import HandS.Head2
import HandS.HeadEnd
import HandS.HeadHook1
import HandS.HeadHook2
set_option Elab.async false
set_option exponentiation.threshold 5000
set_option Elab.async false
set_option linter.all false
set_option maxRecDepth 100000
set_option maxHeartbeats 4000000
namespace VL
open PySem PySem.Spec PyProof.Rows L2

/-! ### data and slots -/
abbrev D := PyData
abbrev Sg := L2.St
/-- what is known of a slot: a settled value; a list lent by the caller; a list that this slot alone holds -/
inductive Sl where
  | v (d : D) | b (d : D) | o (xs : List D)
abbrev En := List (Option Sl)

theorem same_sqT {K : PySem.W.Frag} {H H' : Hp} {a : Addr} {xs : List V} (e : Same H H') (h : SqT K H a xs) : SqT K H' a xs := by
  rcases h with h | h
  · rcases h with h | ⟨o, h⟩
    · exact .inl (.inl (e _ _ h))
    · exact .inl (.inr ⟨o, e _ _ h⟩)
  · exact .inr h

mutual
theorem dp_mono {K : PySem.W.Frag} {G G' : Hp} (e : Same G G') : ∀ (d : D) {v : V}, Dp K G v d → Dp K G' v d
  | .none, _, h => by cases h; exact .non
  | .bool b, _, h => by cases h; exact .bl b
  | .int i, _, h => by cases h; exact .int i
  | .str x, _, h => by cases h; exact .str x
  | .list xs, _, h => by
    cases h with
    | lst s a => exact .lst (e.seq s) (dpAll_mono e xs a)
  | .tuple xs, _, h => by
    cases h with
    | tup s a => exact .tup (same_sqT e s) (dpAll_mono e xs a)
  | .dict _, _, h => by cases h
theorem dpAll_mono {K : PySem.W.Frag} {G G' : Hp} (e : Same G G') : ∀ (ds : List D) {vs : List V}, DpAll K G vs ds → DpAll K G' vs ds
  | [], _, h => by cases h; exact .nil
  | d :: ds, _, h => by
    cases h with
    | cons a b => exact .cons (dp_mono e d a) (dpAll_mono e ds b)
end

mutual
theorem dp_plain {K : PySem.W.Frag} {G : Hp} : ∀ (d : D) {v : V}, Dp K G v d → d.plain = true
  | .none, _, _ => rfl
  | .bool _, _, _ => rfl
  | .int _, _, _ => rfl
  | .str _, _, _ => rfl
  | .list xs, _, h => by
    cases h with
    | lst s a => exact dpAll_plain xs a
  | .tuple xs, _, h => by
    cases h with
    | tup s a => exact dpAll_plain xs a
  | .dict _, _, h => by cases h
theorem dpAll_plain {K : PySem.W.Frag} {G : Hp} : ∀ (ds : List D) {vs : List V}, DpAll K G vs ds → PyData.plainAll ds = true
  | [], _, _ => rfl
  | d :: ds, _, h => by
    cases h with
    | cons a b => simp only [PyData.plainAll, dp_plain d a, dpAll_plain ds b, Bool.and_self]
end

section
variable {K : PySem.W.Frag} {G : Hp}
theorem dpAll_length : ∀ {vs : List V} {ds : List D}, DpAll K G vs ds → vs.length = ds.length
  | _, _, .nil => rfl
  | _, _, .cons _ t => by rw [List.length_cons, List.length_cons, dpAll_length t]
theorem dpAll_append : ∀ {vs ws : List V} {ds es : List D}, DpAll K G vs ds → DpAll K G ws es → DpAll K G (vs ++ ws) (ds ++ es)
  | _, _, _, _, .nil, s => s
  | _, _, _, _, .cons a t, s => .cons a (dpAll_append t s)
theorem dpAll_get : ∀ {vs : List V} {ds : List D} {i : Nat} {d : D}, DpAll K G vs ds → ds[i]? = some d → ∃ v, vs[i]? = some v ∧ Dp K G v d
  | _, _, _, _, .nil, e => by simp at e
  | _, _, 0, _, .cons a _, e => by simp at e; subst e; exact ⟨_, rfl, a⟩
  | _, _, i + 1, d, .cons _ t, e => by
    obtain ⟨v, h1, h2⟩ := dpAll_get (i := i) (d := d) t (by simpa using e)
    exact ⟨v, by simpa using h1, h2⟩
theorem dpAll_set {x : V} {d : D} (r : Dp K G x d) : ∀ {vs : List V} {ds : List D} (i : Nat), DpAll K G vs ds → DpAll K G (vs.set i x) (ds.set i d)
  | _, _, _, .nil => .nil
  | _, _, 0, .cons _ t => .cons r t
  | _, _, i + 1, .cons q t => .cons q (dpAll_set r i t)
theorem dpAll_take : ∀ {vs : List V} {ds : List D} (n : Nat), DpAll K G vs ds → DpAll K G (vs.take n) (ds.take n)
  | _, _, 0, _ => .nil
  | _, _, _ + 1, .nil => .nil
  | _, _, n + 1, .cons r t => .cons r (dpAll_take n t)
theorem dpAll_drop : ∀ {vs : List V} {ds : List D} (n : Nat), DpAll K G vs ds → DpAll K G (vs.drop n) (ds.drop n)
  | _, _, 0, r => r
  | _, _, _ + 1, .nil => .nil
  | _, _, n + 1, .cons _ t => dpAll_drop n t
theorem dpAll_reverse {vs : List V} {ds : List D} (h : DpAll K G vs ds) : DpAll K G vs.reverse ds.reverse := by
  induction vs generalizing ds with
  | nil => cases h; exact .nil
  | cons v vs ih =>
    cases h with
    | cons a t =>
      rw [List.reverse_cons, List.reverse_cons]
      exact dpAll_append (ih t) (.cons a .nil)
theorem dpAll_dropLast {vs : List V} {ds : List D} (h : DpAll K G vs ds) : DpAll K G vs.dropLast ds.dropLast := by
  rw [List.dropLast_eq_take, List.dropLast_eq_take, dpAll_length h]
  exact dpAll_take _ h
theorem dpAll_ints : ∀ (ns : List Int), DpAll K G (ns.map V.int) (ns.map PyData.int)
  | [] => .nil
  | n :: ns => .cons (.int n) (dpAll_ints ns)
theorem dpAll_of_ints : ∀ {vs : List V} {ns : List Int}, DpAll K G vs (ns.map PyData.int) → vs = ns.map V.int
  | _, [], h => by cases h; rfl
  | _, n :: ns, h => by
    cases h with
    | cons a t =>
      cases a
      rw [dpAll_of_ints t]
      rfl
end

/-- a value that is read: a list may stand outside of what is settled, its items do not -/
def Op (K : PySem.W.Frag) (G H : Hp) (v : V) : D → Prop
  | .list ds => ∃ l vs, v = .ref l ∧ SqL K H l vs ∧ DpAll K G vs ds
  | d => Dp K G v d
theorem Op.of {K : PySem.W.Frag} {G H : Hp} (e : Same G H) {v : V} : ∀ {d : D}, Dp K G v d → Op K G H v d
  | .none, h => h
  | .bool _, h => h
  | .int _, h => h
  | .str _, h => h
  | .tuple _, h => h
  | .dict _, h => h
  | .list _, h => by
    cases h with
    | lst s a => exact ⟨_, _, rfl, e.seq s, a⟩
theorem Op.dp {K : PySem.W.Frag} {G H : Hp} (e : Same G H) {v : V} : ∀ {d : D}, Op K G H v d → Dp K H v d
  | .none, h => dp_mono e _ h
  | .bool _, h => dp_mono e _ h
  | .int _, h => dp_mono e _ h
  | .str _, h => dp_mono e _ h
  | .tuple _, h => dp_mono e _ h
  | .dict _, h => dp_mono e _ h
  | .list ds, ⟨l, vs, e1, s, a⟩ => by
    subst e1
    exact .lst s (dpAll_mono e ds a)
theorem Op.mono {K : PySem.W.Frag} {G H G' H' : Hp} (e : Same G G') (e2 : Same H H') {v : V} : ∀ {d : D}, Op K G H v d → Op K G' H' v d
  | .none, h => dp_mono e _ h
  | .bool _, h => dp_mono e _ h
  | .int _, h => dp_mono e _ h
  | .str _, h => dp_mono e _ h
  | .tuple _, h => dp_mono e _ h
  | .dict _, h => dp_mono e _ h
  | .list ds, ⟨l, vs, e1, s, a⟩ => ⟨l, vs, e1, e2.seq s, dpAll_mono e ds a⟩
/-- what is no list -/
def notL : D → Bool
  | .list _ => false
  | _ => true
theorem Op.val {K : PySem.W.Frag} {G H : Hp} {v : V} : ∀ {d : D}, notL d = true → Op K G H v d → Dp K G v d
  | .none, _, h => h
  | .bool _, _, h => h
  | .int _, _, h => h
  | .str _, _, h => h
  | .tuple _, _, h => h
  | .dict _, _, h => h
  | .list _, e, _ => nomatch e

/-- a list that nobody else holds -/
def Own (K : PySem.W.Frag) (B G H : Hp) (v : V) (xs : List D) : Prop := ∃ l vs, v = .ref l ∧ H l = some (.lst vs) ∧ G l = none ∧ B l = none ∧ DpAll K G vs xs

def SlOk (K : PySem.W.Frag) (B G H : Hp) (v : V) : Sl → Prop
  | .v d => Dp K G v d
  | .b d => Op K G B v d
  | .o xs => Own K B G H v xs

structure VSt (K : PySem.W.Frag) (B G0 G : Hp) (σ : Sg) (H : Hp) (env : En) : Prop where
  bh : Same B H
  gh : Same G H
  g0 : Same G0 G
  gf : ∀ a o, G a = some o → G0 a = some o ∨ B a = none
  ln : env.length = σ.length
  sl : ∀ (i : Nat) (s : Sl), env[i]? = some (some s) → ∃ v, σ[i]? = some (some v) ∧ SlOk K B G H v s
  dj : ∀ (i j : Nat) (xs ys : List D), env[i]? = some (some (.o xs)) → env[j]? = some (some (.o ys)) → i ≠ j → σ[i]? ≠ σ[j]?

/-- what evaluation does -/
structure Tr (G H G' H' : Hp) : Prop where
  gg : Same G G'
  hh : Same H H'
  gh : Same G' H'
  gf : ∀ a o, G' a = some o → G a = some o ∨ H a = none
theorem Tr.refl {G H : Hp} (h : Same G H) : Tr G H G H := ⟨Same.refl _, Same.refl _, h, fun _ _ e => .inl e⟩
theorem Tr.trans {G H G1 H1 G2 H2 : Hp} (a : Tr G H G1 H1) (b : Tr G1 H1 G2 H2) : Tr G H G2 H2 :=
  ⟨a.gg.trans b.gg, a.hh.trans b.hh, b.gh, fun x o e => by
    rcases b.gf x o e with z | z
    · exact a.gf x o z
    · exact .inr (a.hh.free z)⟩
theorem upd_same_of {H : Hp} {p : Addr} (o : HO) (np : H p = none) : Same H (upd H p o) := fun b u e => by
  rw [upd_ne (ne_of_none e np)]; exact e
/-- a new object, settled -/
theorem Tr.new {G H : Hp} {p : Addr} {o : HO} (h : Same G H) (np : H p = none) : Tr G H (upd G p o) (upd H p o) := by
  refine ⟨upd_same_of o (h.free np), upd_same_of o np, fun b u e => ?_, fun b u e => ?_⟩
  · by_cases q : b = p
    · subst q; rw [upd_same] at e ⊢; exact e
    · rw [upd_ne q] at e ⊢; exact h _ _ e
  · by_cases q : b = p
    · subst q; exact .inr np
    · rw [upd_ne q] at e; exact .inl e
/-- a new object that is not settled -/
theorem Tr.tmp {G H : Hp} {p : Addr} {o : HO} (h : Same G H) (np : H p = none) : Tr G H G (upd H p o) :=
  ⟨Same.refl _, upd_same_of o np, h.trans (upd_same_of o np), fun _ _ e => .inl e⟩

section
variable {K : PySem.W.Frag} {B G0 G H G' H' : Hp} {σ : Sg} {env : En}
theorem Tr.bf (t : Tr G H G' H') {l : Addr} {o : HO} (hl : H l = some o) (gl : G l = none) : G' l = none := by
  cases e : G' l with
  | none => rfl
  | some u =>
    rcases t.gf l u e with z | z
    · rw [gl] at z; cases z
    · rw [hl] at z; cases z
theorem Own.tr {v : V} {xs : List D} (t : Tr G H G' H') (h : Own K B G H v xs) : Own K B G' H' v xs := by
  obtain ⟨l, vs, e, hl, gl, bl, a⟩ := h
  exact ⟨l, vs, e, t.hh _ _ hl, t.bf hl gl, bl, dpAll_mono t.gg _ a⟩
theorem SlOk.tr {v : V} {s : Sl} (t : Tr G H G' H') (h : SlOk K B G H v s) : SlOk K B G' H' v s := by
  cases s with
  | v d => exact dp_mono t.gg _ h
  | b d => exact Op.mono t.gg (Same.refl _) h
  | o xs => exact Own.tr t h
theorem VSt.tr (s : VSt K B G0 G σ H env) (t : Tr G H G' H') : VSt K B G0 G' σ H' env where
  bh := s.bh.trans t.hh
  gh := t.gh
  g0 := s.g0.trans t.gg
  gf := fun a o e => by
    rcases t.gf a o e with z | z
    · exact s.gf a o z
    · exact .inr (s.bh.free z)
  ln := s.ln
  sl := fun i x e => let ⟨v, e1, h⟩ := s.sl i x e; ⟨v, e1, h.tr t⟩
  dj := s.dj
end

/-! ### expressions -/
abbrev DE := En → Option D
abbrev DL := En → Option (List D)
abbrev DT := En → Option Bool

/-- read -/
def VO (X : Cx) (e : Expr) (f : DE) : Prop := ∃ t, PE X e t ∧ ∀ B G0 G σ H env d (Q : VK), VSt X.K B G0 G σ H env → f env = some d →
  (∀ v G' H', Tr G H G' H' → Op X.K G' H' v d → Q v H') → t σ H Q
/-- handed on -/
def VE (X : Cx) (e : Expr) (f : DE) : Prop := ∃ t, PE X e t ∧ ∀ B G0 G σ H env d (Q : VK), VSt X.K B G0 G σ H env → f env = some d →
  (∀ v G' H', Tr G H G' H' → Dp X.K G' v d → Q v H') → t σ H Q
/-- a new list -/
def VF (X : Cx) (e : Expr) (f : DL) : Prop := ∃ t, PE X e t ∧ ∀ B G0 G σ H env xs (Q : VK), VSt X.K B G0 G σ H env → f env = some xs →
  (∀ v G' H', Tr G H G' H' → Own X.K H G' H' v xs → Q v H') → t σ H Q
/-- a test -/
def VT (X : Cx) (e : Expr) (f : DT) : Prop := ∃ t, PT X e t ∧ ∀ B G0 G σ H env b (Q : Bool → Hp → Prop), VSt X.K B G0 G σ H env → f env = some b →
  (∀ G' H', Tr G H G' H' → Q b H') → t σ H Q
def VW (X : Cx) (e : Expr) (f : DT) : Prop := ∃ t, PW X e t ∧ ∀ B G0 G σ H env b (Q : Bool → Hp → Prop), VSt X.K B G0 G σ H env → f env = some b →
  (∀ G' H', Tr G H G' H' → Q b H') → t σ H Q

section
variable {X : Cx} {e : Expr} {f : DE} {fl : DL} {ft : DT}
theorem VE.vo (h : VE X e f) : VO X e f := by
  obtain ⟨t, p, q⟩ := h
  exact ⟨t, p, fun B G0 G σ H env d Q s ef k => q B G0 G σ H env d Q s ef fun v G' H' tr r => k v G' H' tr (Op.of tr.gh r)⟩
/-- a new list is settled -/
theorem own_settle {K : PySem.W.Frag} {G H G' H' : Hp} {v : V} {xs : List D} (t : Tr G H G' H') (o : Own K H G' H' v xs) : ∃ G2, Tr G H G2 H' ∧ Dp K G2 v (.list xs) := by
  obtain ⟨l, vs, e, hl, gl, bl, a⟩ := o
  refine ⟨upd G' l (.lst vs), ⟨t.gg.trans (upd_same_of _ gl), t.hh, fun b u q => ?_, fun b u q => ?_⟩, ?_⟩
  · by_cases z : b = l
    · subst z; rw [upd_same] at q; rw [hl]; exact q
    · rw [upd_ne z] at q; exact t.gh _ _ q
  · by_cases z : b = l
    · subst z; exact .inr bl
    · rw [upd_ne z] at q; exact t.gf _ _ q
  · subst e
    exact .lst (.inl (.inl upd_same)) (dpAll_mono (upd_same_of _ gl) _ a)
def toL (f : DL) : DE := fun env => match f env with | some xs => some (.list xs) | none => none
theorem VF.ve (h : VF X e fl) : VE X e (toL fl) := by
  obtain ⟨t, p, q⟩ := h
  refine ⟨t, p, fun B G0 G σ H env d Q s ef k => ?_⟩
  unfold toL at ef
  cases z : fl env with
  | none => rw [z] at ef; cases ef
  | some xs =>
    rw [z] at ef; cases ef
    refine q B G0 G σ H env xs Q s z fun v G' H' tr r => ?_
    obtain ⟨G2, t2, r2⟩ := own_settle tr r
    exact k v G2 H' t2 r2
theorem VF.vo (h : VF X e fl) : VO X e (toL fl) := h.ve.vo

def rdO (i : Nat) : DE := fun env => match env[i]? with
  | some (some (.v d)) => some d
  | some (some (.b d)) => some d
  | some (some (.o xs)) => some (.list xs)
  | _ => none
def noL : D → Option D
  | .list _ => none
  | d => some d
theorem noL_some {d e : D} (h : noL d = some e) : e = d ∧ notL d = true := by
  cases d <;> cases h <;> exact ⟨rfl, rfl⟩
def rdE (i : Nat) : DE := fun env => match env[i]? with
  | some (some (.v d)) => some d
  | some (some (.b d)) => noL d
  | _ => none
theorem vo_var (i : Nat) {x : Str} {pos : Pos} (hN : X.N[i]? = some x := by rfl) (hv : Vis X.env.scope x := by first | exact Or.inl rfl | exact Or.inr (Or.inl rfl) | exact Or.inr (Or.inr rfl)) (hd : (x == ("__debug__" : Str)) = false := by decide) (hcd : (x == ("__classdict__" : Str)) = false := by decide) : VO X (.Name x pos) (rdO i) := by
  refine ⟨_, pe_var hN hv hd hcd, fun B G0 G σ H env d Q s ef k => ?_⟩
  unfold rdO at ef
  split at ef <;> cases ef <;> rename_i z <;> obtain ⟨v, e1, r⟩ := s.sl _ _ z
  · exact ⟨v, e1, k v G H (Tr.refl s.gh) (Op.of s.gh r)⟩
  · exact ⟨v, e1, k v G H (Tr.refl s.gh) (Op.mono (Same.refl _) s.bh r)⟩
  · obtain ⟨l, vs, e2, hl, gl, bl, a⟩ := r
    exact ⟨v, e1, k v G H (Tr.refl s.gh) ⟨l, vs, e2, SqL.of hl, a⟩⟩
theorem ve_var (i : Nat) {x : Str} {pos : Pos} (hN : X.N[i]? = some x := by rfl) (hv : Vis X.env.scope x := by first | exact Or.inl rfl | exact Or.inr (Or.inl rfl) | exact Or.inr (Or.inr rfl)) (hd : (x == ("__debug__" : Str)) = false := by decide) (hcd : (x == ("__classdict__" : Str)) = false := by decide) : VE X (.Name x pos) (rdE i) := by
  refine ⟨_, pe_var hN hv hd hcd, fun B G0 G σ H env d Q s ef k => ?_⟩
  unfold rdE at ef
  split at ef
  · cases ef; rename_i z; obtain ⟨v, e1, r⟩ := s.sl _ _ z
    exact ⟨v, e1, k v G H (Tr.refl s.gh) r⟩
  · rename_i z
    obtain ⟨rfl, nl⟩ := noL_some ef
    obtain ⟨v, e1, r⟩ := s.sl _ _ z
    exact ⟨v, e1, k v G H (Tr.refl s.gh) (Op.val nl r)⟩
  · cases ef

/-! ### constants -/
def dC (d : D) : DE := fun _ => some d
theorem ve_int {i : Int} {j : Nat} {pos : Pos} : VE X (.Constant (.int i) j pos) (dC (.int i)) := ⟨_, pe_int, fun B G0 G σ H env d Q s ef k => by cases ef; exact k _ G H (Tr.refl s.gh) (.int i)⟩
theorem ve_bl {i : Bool} {j : Nat} {pos : Pos} : VE X (.Constant (.bool i) j pos) (dC (.bool i)) := ⟨_, pe_bl, fun B G0 G σ H env d Q s ef k => by cases ef; exact k _ G H (Tr.refl s.gh) (.bl i)⟩
theorem ve_non {j : Nat} {pos : Pos} : VE X (.Constant .none j pos) (dC .none) := ⟨_, pe_non, fun B G0 G σ H env d Q s ef k => by cases ef; exact k _ G H (Tr.refl s.gh) .non⟩
theorem ve_str {i : Str} {j : Nat} {pos : Pos} : VE X (.Constant (.str i) j pos) (dC (.str i)) := ⟨_, pe_str, fun B G0 G σ H env d Q s ef k => by cases ef; exact k _ G H (Tr.refl s.gh) (.str i)⟩
end
end VL

set_option Elab.async false
set_option linter.all false
set_option maxRecDepth 100000
set_option maxHeartbeats 4000000
set_option exponentiation.threshold 5000
namespace VL
open PySem PySem.Spec PyProof.Rows L2

/-! ### two operands -/
def d2 {α : Type} (k : D → D → Option α) (fa fb : DE) : En → Option α := fun env => match fa env with
  | some x => (match fb env with
    | some y => k x y
    | none => none)
  | none => none
def d1 {α : Type} (k : D → Option α) (fa : DE) : En → Option α := fun env => match fa env with
  | some x => k x
  | none => none
theorem d2_some {α : Type} {k : D → D → Option α} {fa fb : DE} {env : En} {z : α} (h : d2 k fa fb env = some z) : ∃ x y, fa env = some x ∧ fb env = some y ∧ k x y = some z := by
  unfold d2 at h
  cases e1 : fa env with
  | none => rw [e1] at h; cases h
  | some x =>
    cases e2 : fb env with
    | none => rw [e1, e2] at h; cases h
    | some y => rw [e1, e2] at h; exact ⟨x, y, rfl, rfl, h⟩
theorem d1_some {α : Type} {k : D → Option α} {fa : DE} {env : En} {z : α} (h : d1 k fa env = some z) : ∃ x, fa env = some x ∧ k x = some z := by
  unfold d1 at h
  cases e1 : fa env with
  | none => rw [e1] at h; cases h
  | some x => rw [e1] at h; exact ⟨x, rfl, h⟩

section
variable {X : Cx} {a b c : Expr} {fa fb fc : DE} {pos : Pos}
theorem sameR {G H : Hp} (h : Same G H) : Tr G H G H := Tr.refl h
/-- two operands, one behind the other -/
theorem two {ta tb : TE} {R : V → V → Hp → Prop} {B G0 G H : Hp} {σ : Sg} {env : En} {x y : D}
    (ha : ∀ B G0 G σ H env d (Q : VK), VSt X.K B G0 G σ H env → fa env = some d → (∀ v G' H', Tr G H G' H' → Op X.K G' H' v d → Q v H') → ta σ H Q)
    (hb : ∀ B G0 G σ H env d (Q : VK), VSt X.K B G0 G σ H env → fb env = some d → (∀ v G' H', Tr G H G' H' → Op X.K G' H' v d → Q v H') → tb σ H Q)
    (s : VSt X.K B G0 G σ H env) (e1 : fa env = some x) (e2 : fb env = some y)
    (k : ∀ v w G' H', Tr G H G' H' → Op X.K G' H' v x → Op X.K G' H' w y → R v w H') : ta σ H fun v H1 => tb σ H1 fun w H2 => R v w H2 := by
  refine ha B G0 G σ H env x _ s e1 fun v G1 H1 t1 r1 => ?_
  refine hb B G0 G1 σ H1 env y _ (s.tr t1) e2 fun w G2 H2 t2 r2 => ?_
  exact k v w G2 H2 (t1.trans t2) (r1.mono t2.gg t2.hh) r2
/-- an operation that yields what may be handed on -/
def OpE (K : PySem.W.Frag) (r : R2) (k : D → D → Option D) : Prop := ∀ G H v w x y z (Q : VK), Same G H → Op K G H v x → Op K G H w y → k x y = some z →
  (∀ u G' H', Tr G H G' H' → Dp K G' u z → Q u H') → r v w H Q
theorem ve_op {op : Operator} {r : R2} {k : D → D → Option D} (ho : OpR X (binaryOp op) r) (hk : OpE X.K r k) (ha : VO X a fa) (hb : VO X b fb) : VE X (.BinOp a op b pos) (d2 k fa fb) := by
  obtain ⟨ta, pa, qa⟩ := ha
  obtain ⟨tb, pb, qb⟩ := hb
  refine ⟨_, pe_op ho pa pb, fun B G0 G σ H env d Q s ef q => ?_⟩
  obtain ⟨x, y, e1, e2, e3⟩ := d2_some ef
  exact two (R := fun v w H2 => r v w H2 Q) qa qb s e1 e2 fun v w G1 H1 t r1 r2 => hk G1 H1 v w x y d Q t.gh r1 r2 e3 fun u G' H' t' r' => q u G' H' (t.trans t') r'
/-- ints to an int -/
def kI (C : Int → Int → Bool) (g : Int → Int → Int) : D → D → Option D
  | .int i, .int j => if C i j = true then some (.int (g i j)) else none
  | _, _ => none
def kI0 (g : Int → Int → Int) : D → D → Option D
  | .int i, .int j => some (.int (g i j))
  | _, _ => none
theorem opE_I {K : PySem.W.Frag} {C : Int → Int → Prop} {Cb : Int → Int → Bool} {g : Int → Int → Int} (h : ∀ i j, Cb i j = true → C i j) : OpE K (rI C fun i j => .int (g i j)) (kI Cb g) := by
  intro G H v w x y z Q sg r1 r2 e q
  unfold kI at e
  split at e
  · split at e
    · cases e
      rename_i hc
      cases r1; cases r2
      exact ⟨_, _, rfl, rfl, h _ _ hc, q _ G H (Tr.refl sg) (.int _)⟩
    · cases e
  · cases e
theorem opE_I0 {K : PySem.W.Frag} {g : Int → Int → Int} : OpE K (rI0 fun i j => .int (g i j)) (kI0 g) := by
  intro G H v w x y z Q sg r1 r2 e q
  unfold kI0 at e
  split at e
  · cases e
    cases r1; cases r2
    exact ⟨_, _, rfl, rfl, q _ G H (Tr.refl sg) (.int _)⟩
  · cases e
abbrev kAdd : D → D → Option D := kI0 fun i j => i + j
abbrev kSub : D → D → Option D := kI0 fun i j => i - j
/-- what * and // take -/
def big : Nat := 2 ^ 4096
def cMul (i j : Int) : Bool := decide (i.natAbs < big) && decide (j.natAbs < big)
def kMul : D → D → Option D := kI cMul fun i j => i * j
def cDiv (_ j : Int) : Bool := decide (0 < j) && decide (j.natAbs < big)
def kDiv : D → D → Option D := kI cDiv fun i j => i / j
def cMod (_ j : Int) : Bool := decide (0 < j)
def kMod : D → D → Option D := kI cMod fun i j => i % j
def cPow (i j : Int) : Bool := decide (0 ≤ j) && decide (j.natAbs ≤ 1000000) && decide (i.natAbs < 2 ^ 64)
def kPow : D → D → Option D := kI cPow fun i j => i ^ j.toNat
theorem ve_add (ha : VO X a fa) (hb : VO X b fb) : VE X (.BinOp a .Add b pos) (d2 kAdd fa fb) := ve_op op_add opE_I0 ha hb
theorem ve_sub (ha : VO X a fa) (hb : VO X b fb) : VE X (.BinOp a .Sub b pos) (d2 kSub fa fb) := ve_op op_sub opE_I0 ha hb
theorem ve_mul (ha : VO X a fa) (hb : VO X b fb) : VE X (.BinOp a .Mult b pos) (d2 kMul fa fb) := ve_op op_mulW (opE_I fun i j h => by
  have h' := Bool.and_eq_true_iff.mp h
  have e : big = 2 ^ 4096 := rfl
  exact wide_mul (a := 4096) (b := 4096) (e ▸ of_decide_eq_true h'.1) (e ▸ of_decide_eq_true h'.2) (by decide) (by decide) (by decide)) ha hb
theorem ve_div (ha : VO X a fa) (hb : VO X b fb) : VE X (.BinOp a .FloorDiv b pos) (d2 kDiv fa fb) := ve_op op_fdivW (opE_I fun i j h => by
  have h' := Bool.and_eq_true_iff.mp h
  have e : big = 2 ^ 4096 := rfl
  exact wide_div (of_decide_eq_true h'.1) (e ▸ of_decide_eq_true h'.2) (by decide) (by decide)) ha hb
theorem ve_mod (ha : VO X a fa) (hb : VO X b fb) : VE X (.BinOp a .Mod b pos) (d2 kMod fa fb) := ve_op op_mod (opE_I fun i j h => of_decide_eq_true h) ha hb
theorem ve_pow (ha : VO X a fa) (hb : VO X b fb) : VE X (.BinOp a .Pow b pos) (d2 kPow fa fb) := ve_op op_pow (opE_I fun i j h => by
  have h' := Bool.and_eq_true_iff.mp h
  have h2 := Bool.and_eq_true_iff.mp h'.1
  have h3 := of_decide_eq_true h2.1
  have h4 := of_decide_eq_true h2.2
  exact ⟨h3, by omega, of_decide_eq_true h'.2⟩) ha hb
def kNeg : D → Option D
  | .int i => some (.int (-i))
  | _ => none
theorem ve_neg (ha : VO X a fa) : VE X (.UnaryOp .USub a pos) (d1 kNeg fa) := by
  obtain ⟨ta, pa, qa⟩ := ha
  refine ⟨_, pe_un un_neg pa, fun B G0 G σ H env d Q s ef q => ?_⟩
  obtain ⟨x, e1, e3⟩ := d1_some ef
  refine qa B G0 G σ H env x _ s e1 fun v G1 H1 t r => ?_
  unfold kNeg at e3
  split at e3
  · cases e3; cases r
    exact ⟨_, rfl, q _ G1 H1 t (.int _)⟩
  · cases e3

/-! ### comparisons -/
def OpB (K : PySem.W.Frag) (r : R2) (k : D → D → Option Bool) : Prop := ∀ G H v w x y z (Q : VK), Same G H → Op K G H v x → Op K G H w y → k x y = some z → Q (.bl z) H → r v w H Q
theorem vt_cmp {op : CmpOp} {r : R2} {k : D → D → Option Bool} (ho : OpR X (compareOp op) r) (hk : OpB X.K r k) (ha : VO X a fa) (hb : VO X b fb) (hm : behindInMarks op b = false) : VT X (.Compare a [op] [b] pos) (d2 k fa fb) := by
  obtain ⟨ta, pa, qa⟩ := ha
  obtain ⟨tb, pb, qb⟩ := hb
  refine ⟨_, pt_cmpR ho pa pb hm, fun B G0 G σ H env d Q s ef q => ?_⟩
  obtain ⟨x, y, e1, e2, e3⟩ := d2_some ef
  exact two (R := fun v w H2 => r v w H2 _) qa qb s e1 e2 fun v w G1 H1 t r1 r2 => hk G1 H1 v w x y d _ t.gh r1 r2 e3 ⟨_, rfl, q G1 H1 t⟩
def toB (f : DT) : DE := fun env => match f env with | some b => some (.bool b) | none => none
theorem toB_some {f : DT} {env : En} {d : D} (h : toB f env = some d) : ∃ b, f env = some b ∧ d = .bool b := by
  unfold toB at h
  cases e : f env with
  | none => rw [e] at h; cases h
  | some b => rw [e] at h; cases h; exact ⟨b, rfl, rfl⟩
theorem ve_cmp {op : CmpOp} {r : R2} {k : D → D → Option Bool} (ho : OpR X (compareOp op) r) (hk : OpB X.K r k) (ha : VO X a fa) (hb : VO X b fb) (hm : behindInMarks op b = false) : VE X (.Compare a [op] [b] pos) (toB (d2 k fa fb)) := by
  obtain ⟨ta, pa, qa⟩ := ha
  obtain ⟨tb, pb, qb⟩ := hb
  refine ⟨_, pe_cmpR ho pa pb hm, fun B G0 G σ H env d Q s ef q => ?_⟩
  obtain ⟨z, ef2, rfl⟩ := toB_some ef
  obtain ⟨x, y, e1, e2, e3⟩ := d2_some ef2
  exact two (R := fun v w H2 => r v w H2 Q) qa qb s e1 e2 fun v w G1 H1 t r1 r2 => hk G1 H1 v w x y z _ t.gh r1 r2 e3 (q _ G1 H1 t (.bl z))
def cI (g : Int → Int → Bool) : D → D → Option Bool
  | .int i, .int j => some (g i j)
  | _, _ => none
theorem opB_I {K : PySem.W.Frag} {g : Int → Int → Bool} : OpB K (rI0 fun i j => .bl (g i j)) (cI g) := by
  intro G H v w x y z Q sg r1 r2 e q
  unfold cI at e
  split at e
  · cases e
    cases r1; cases r2
    exact ⟨_, _, rfl, rfl, q⟩
  · cases e
abbrev cLt : D → D → Option Bool := cI fun i j => decide (i < j)
abbrev cLe : D → D → Option Bool := cI fun i j => decide (i ≤ j)
abbrev cGt : D → D → Option Bool := cI fun i j => decide (j < i)
abbrev cGe : D → D → Option Bool := cI fun i j => decide (j ≤ i)
theorem vt_lt (ha : VO X a fa) (hb : VO X b fb) : VT X (.Compare a [.Lt] [b] pos) (d2 cLt fa fb) := vt_cmp op_lt opB_I ha hb (nomark _)
theorem vt_le (ha : VO X a fa) (hb : VO X b fb) : VT X (.Compare a [.LtE] [b] pos) (d2 cLe fa fb) := vt_cmp op_le opB_I ha hb (nomark _)
theorem vt_gt (ha : VO X a fa) (hb : VO X b fb) : VT X (.Compare a [.Gt] [b] pos) (d2 cGt fa fb) := vt_cmp op_gt opB_I ha hb (nomark _)
theorem vt_ge (ha : VO X a fa) (hb : VO X b fb) : VT X (.Compare a [.GtE] [b] pos) (d2 cGe fa fb) := vt_cmp op_ge opB_I ha hb (nomark _)
theorem ve_lt (ha : VO X a fa) (hb : VO X b fb) : VE X (.Compare a [.Lt] [b] pos) (toB (d2 cLt fa fb)) := ve_cmp op_lt opB_I ha hb (nomark _)
theorem ve_le (ha : VO X a fa) (hb : VO X b fb) : VE X (.Compare a [.LtE] [b] pos) (toB (d2 cLe fa fb)) := ve_cmp op_le opB_I ha hb (nomark _)
theorem ve_gt (ha : VO X a fa) (hb : VO X b fb) : VE X (.Compare a [.Gt] [b] pos) (toB (d2 cGt fa fb)) := ve_cmp op_gt opB_I ha hb (nomark _)
theorem ve_ge (ha : VO X a fa) (hb : VO X b fb) : VE X (.Compare a [.GtE] [b] pos) (toB (d2 cGe fa fb)) := ve_cmp op_ge opB_I ha hb (nomark _)
/-- == of data of any kind, of a depth of at most 64 on one side -/
def cEq : D → D → Option Bool := fun x y => if min x.depth y.depth ≤ 64 then some (PyData.eqv x y) else none
def cNe : D → D → Option Bool := fun x y => if min x.depth y.depth ≤ 64 then some (!PyData.eqv x y) else none
def rEqP (K : PySem.W.Frag) : R2 := fun x y H Q => ∃ d e, Dp K H x d ∧ Dp K H y e ∧ min d.depth e.depth ≤ 64 ∧ Q (.bl (PyData.eqv d e)) H
def rNeP (K : PySem.W.Frag) : R2 := fun x y H Q => ∃ d e, Dp K H x d ∧ Dp K H y e ∧ min d.depth e.depth ≤ 64 ∧ Q (.bl (!PyData.eqv d e)) H
theorem op_eqP (hu : X.A.units + 64 < cLine) : OpR X (compareOp .Eq) (rEqP X.K) := by
  intro pins s σ H x y v u Q I rx ry h
  obtain ⟨d, e, dx, dy, hm, q⟩ := h
  obtain ⟨as, ra⟩ := Dp.reads I d x v dx rx
  obtain ⟨bs, rb⟩ := Dp.reads I e y u dy ry
  exact SeqAt.eq_plain ra rb (dp_plain d dx) (dp_plain e dy) (by omega) ⟨.bl _, H, I, rfl, q⟩
theorem op_neP (hu : X.A.units + 64 < cLine) : OpR X (compareOp .NotEq) (rNeP X.K) := by
  intro pins s σ H x y v u Q I rx ry h
  obtain ⟨d, e, dx, dy, hm, q⟩ := h
  obtain ⟨as, ra⟩ := Dp.reads I d x v dx rx
  obtain ⟨bs, rb⟩ := Dp.reads I e y u dy ry
  exact SeqAt.ne_plain ra rb (dp_plain d dx) (dp_plain e dy) (by omega) ⟨.bl _, H, I, rfl, q⟩
theorem opB_eq {K : PySem.W.Frag} : OpB K (rEqP K) cEq := by
  intro G H v w x y z Q sg r1 r2 e q
  unfold cEq at e
  split at e
  · cases e
    rename_i hm
    exact ⟨x, y, r1.dp sg, r2.dp sg, hm, q⟩
  · cases e
theorem opB_ne {K : PySem.W.Frag} : OpB K (rNeP K) cNe := by
  intro G H v w x y z Q sg r1 r2 e q
  unfold cNe at e
  split at e
  · cases e
    rename_i hm
    exact ⟨x, y, r1.dp sg, r2.dp sg, hm, q⟩
  · cases e
variable (hu : X.A.units + 64 < cLine)
include hu in
theorem vt_eq (ha : VO X a fa) (hb : VO X b fb) : VT X (.Compare a [.Eq] [b] pos) (d2 cEq fa fb) := vt_cmp (op_eqP hu) opB_eq ha hb (nomark _)
include hu in
theorem vt_ne (ha : VO X a fa) (hb : VO X b fb) : VT X (.Compare a [.NotEq] [b] pos) (d2 cNe fa fb) := vt_cmp (op_neP hu) opB_ne ha hb (nomark _)
include hu in
theorem ve_eq (ha : VO X a fa) (hb : VO X b fb) : VE X (.Compare a [.Eq] [b] pos) (toB (d2 cEq fa fb)) := ve_cmp (op_eqP hu) opB_eq ha hb (nomark _)
include hu in
theorem ve_ne (ha : VO X a fa) (hb : VO X b fb) : VE X (.Compare a [.NotEq] [b] pos) (toB (d2 cNe fa fb)) := ve_cmp (op_neP hu) opB_ne ha hb (nomark _)
/-- is, is not: of bools; None -/
def cIsB : D → D → Option Bool
  | .bool a, .bool b => some (decide (a = b))
  | _, _ => none
def cNisB : D → D → Option Bool
  | .bool a, .bool b => some (!decide (a = b))
  | _, _ => none
theorem opB_isB {K : PySem.W.Frag} : OpB K rIsB cIsB := by
  intro G H v w x y z Q sg r1 r2 e q
  unfold cIsB at e
  split at e
  · cases e; cases r1; cases r2
    exact ⟨_, _, rfl, rfl, q⟩
  · cases e
theorem opB_nisB {K : PySem.W.Frag} : OpB K rNotB cNisB := by
  intro G H v w x y z Q sg r1 r2 e q
  unfold cNisB at e
  split at e
  · cases e; cases r1; cases r2
    exact ⟨_, _, rfl, rfl, q⟩
  · cases e
theorem vt_isB (ha : VO X a fa) (hb : VO X b fb) : VT X (.Compare a [.Is] [b] pos) (d2 cIsB fa fb) := vt_cmp op_isBl opB_isB ha hb (nomark _)
theorem ve_isB (ha : VO X a fa) (hb : VO X b fb) : VE X (.Compare a [.Is] [b] pos) (toB (d2 cIsB fa fb)) := ve_cmp op_isBl opB_isB ha hb (nomark _)
theorem vt_nisB (ha : VO X a fa) (hb : VO X b fb) : VT X (.Compare a [.IsNot] [b] pos) (d2 cNisB fa fb) := vt_cmp op_notBl opB_nisB ha hb (nomark _)
theorem ve_nisB (ha : VO X a fa) (hb : VO X b fb) : VE X (.Compare a [.IsNot] [b] pos) (toB (d2 cNisB fa fb)) := ve_cmp op_notBl opB_nisB ha hb (nomark _)
def isN : D → Bool
  | .none => true
  | _ => false
theorem op_non {K : PySem.W.Frag} {G H : Hp} {v : V} {d : D} (r : Op K G H v d) : decide (v = .non) = isN d := by
  cases d with
  | none => cases r; rfl
  | bool b => cases r; rfl
  | int b => cases r; rfl
  | str b => cases r; rfl
  | tuple b => cases r; rfl
  | list b => obtain ⟨l, vs, e, _⟩ := r; subst e; rfl
  | dict b => cases r
def cIsN : D → D → Option Bool
  | x, .none => some (isN x)
  | _, _ => none
def cNisN : D → D → Option Bool
  | x, .none => some (!isN x)
  | _, _ => none
theorem opB_isN {K : PySem.W.Frag} : OpB K (fun x y H Q => y = .non ∧ Q (.bl (decide (x = .non))) H) cIsN := by
  intro G H v w x y z Q sg r1 r2 e q
  unfold cIsN at e
  split at e
  · cases e; cases r2
    exact ⟨rfl, by rw [op_non r1]; exact q⟩
  · cases e
theorem opB_nisN {K : PySem.W.Frag} : OpB K (fun x y H Q => y = .non ∧ Q (.bl (!decide (x = .non))) H) cNisN := by
  intro G H v w x y z Q sg r1 r2 e q
  unfold cNisN at e
  split at e
  · cases e; cases r2
    exact ⟨rfl, by rw [op_non r1]; exact q⟩
  · cases e
theorem vt_isN (ha : VO X a fa) (hb : VO X b fb) : VT X (.Compare a [.Is] [b] pos) (d2 cIsN fa fb) := vt_cmp op_isN opB_isN ha hb (nomark _)
theorem ve_isN (ha : VO X a fa) (hb : VO X b fb) : VE X (.Compare a [.Is] [b] pos) (toB (d2 cIsN fa fb)) := ve_cmp op_isN opB_isN ha hb (nomark _)
theorem vt_nisN (ha : VO X a fa) (hb : VO X b fb) : VT X (.Compare a [.IsNot] [b] pos) (d2 cNisN fa fb) := vt_cmp op_notN opB_nisN ha hb (nomark _)
theorem ve_nisN (ha : VO X a fa) (hb : VO X b fb) : VE X (.Compare a [.IsNot] [b] pos) (toB (d2 cNisN fa fb)) := ve_cmp op_notN opB_nisN ha hb (nomark _)

/-! ### and, or, not -/
def dAnd (f g : DT) : DT := fun env => match f env with
  | some true => g env
  | some false => some false
  | none => none
def dOr (f g : DT) : DT := fun env => match f env with
  | some true => some true
  | some false => g env
  | none => none
def dNot (f : DT) : DT := fun env => match f env with
  | some b => some (!b)
  | none => none
variable {ft gt : DT} {rest : List Expr}
theorem VW.vt {e : Expr} (h : VW X e ft) : VT X e ft := by
  obtain ⟨t, p, q⟩ := h
  exact ⟨t, p.pt, q⟩
theorem vw_and1 (ha : VT X a ft) : VW X (.BoolOp .And [a] pos) ft := by
  obtain ⟨t, p, q⟩ := ha
  exact ⟨_, pw_and1 p, q⟩
theorem vw_or1 (ha : VT X a ft) : VW X (.BoolOp .Or [a] pos) ft := by
  obtain ⟨t, p, q⟩ := ha
  exact ⟨_, pw_or1 p, q⟩
theorem vw_and (ha : VT X a ft) (hb : VW X (.BoolOp .And (b :: rest) pos) gt) : VW X (.BoolOp .And (a :: b :: rest) pos) (dAnd ft gt) := by
  obtain ⟨t, p, q⟩ := ha
  obtain ⟨t', p', q'⟩ := hb
  refine ⟨_, pw_and p p', fun B G0 G σ H env d Q s ef k => ?_⟩
  unfold dAnd at ef
  cases e : ft env with
  | none => rw [e] at ef; cases ef
  | some c =>
    rw [e] at ef
    refine q B G0 G σ H env c _ s e fun G1 H1 t1 => ?_
    cases c with
    | true => exact iteT (q' B G0 G1 σ H1 env d Q (s.tr t1) ef fun G2 H2 t2 => k G2 H2 (t1.trans t2))
    | false => cases ef; exact iteF (k G1 H1 t1)
theorem vw_or (ha : VT X a ft) (hb : VW X (.BoolOp .Or (b :: rest) pos) gt) : VW X (.BoolOp .Or (a :: b :: rest) pos) (dOr ft gt) := by
  obtain ⟨t, p, q⟩ := ha
  obtain ⟨t', p', q'⟩ := hb
  refine ⟨_, pw_or p p', fun B G0 G σ H env d Q s ef k => ?_⟩
  unfold dOr at ef
  cases e : ft env with
  | none => rw [e] at ef; cases ef
  | some c =>
    rw [e] at ef
    refine q B G0 G σ H env c _ s e fun G1 H1 t1 => ?_
    cases c with
    | false => exact iteF (q' B G0 G1 σ H1 env d Q (s.tr t1) ef fun G2 H2 t2 => k G2 H2 (t1.trans t2))
    | true => cases ef; exact iteT (k G1 H1 t1)
theorem vt_not (ha : VT X a ft) : VT X (.UnaryOp .Not a pos) (dNot ft) := by
  obtain ⟨t, p, q⟩ := ha
  refine ⟨_, pt_not p, fun B G0 G σ H env d Q s ef k => ?_⟩
  unfold dNot at ef
  cases e : ft env with
  | none => rw [e] at ef; cases ef
  | some c => rw [e] at ef; cases ef; exact q B G0 G σ H env c _ s e fun G1 H1 t1 => k G1 H1 t1
/-- a value that is a bool, as a test -/
def ofB (f : DE) : DT := fun env => match f env with
  | some (.bool b) => some b
  | _ => none
theorem ofB_some {f : DE} {env : En} {b : Bool} (h : ofB f env = some b) : f env = some (.bool b) := by
  unfold ofB at h
  split at h
  · cases h; assumption
  · cases h
theorem vt_val {e : Expr} {f : DE} (h : VO X e f) (he : ∀ whole, isTrue e X.env whole = (do let v ← whole; standAt e.pos; holding [v] (truthy v)) := by intro _; rfl) : VT X e (ofB f) := by
  obtain ⟨t, p, q⟩ := h
  refine ⟨_, pt_val p he, fun B G0 G σ H env d Q s ef k => ?_⟩
  refine q B G0 G σ H env _ _ s (ofB_some ef) fun v G1 H1 t1 r => ?_
  cases r
  exact ⟨_, rfl, k G1 H1 t1⟩
/-- .. as values -/
def dAndV (f g : DE) : DE := fun env => match f env with
  | some (.bool true) => g env
  | some (.bool false) => some (.bool false)
  | _ => none
def dOrV (f g : DE) : DE := fun env => match f env with
  | some (.bool true) => some (.bool true)
  | some (.bool false) => g env
  | _ => none
def dNotV (f : DE) : DE := fun env => match f env with
  | some (.bool b) => some (.bool (!b))
  | _ => none
theorem ve_one {op : BoolOp} (h : VE X a fa) : VE X (.BoolOp op [a] pos) fa := by
  obtain ⟨t, p, q⟩ := h
  exact ⟨_, pe_one p, q⟩
theorem ve_and (ha : VE X a fa) (hb : VE X (.BoolOp .And (b :: rest) pos) fb) : VE X (.BoolOp .And (a :: b :: rest) pos) (dAndV fa fb) := by
  obtain ⟨t, p, q⟩ := ha
  obtain ⟨t', p', q'⟩ := hb
  refine ⟨_, pe_and p p', fun B G0 G σ H env d Q s ef k => ?_⟩
  unfold dAndV at ef
  split at ef
  · rename_i e
    refine q B G0 G σ H env _ _ s e fun v G1 H1 t1 r => ?_
    cases r
    exact ⟨_, rfl, iteT (q' B G0 G1 σ H1 env d Q (s.tr t1) ef fun v G2 H2 t2 r2 => k v G2 H2 (t1.trans t2) r2)⟩
  · rename_i e
    cases ef
    refine q B G0 G σ H env _ _ s e fun v G1 H1 t1 r => ?_
    cases r
    exact ⟨_, rfl, iteF (k _ G1 H1 t1 (.bl false))⟩
  · cases ef
theorem ve_or (ha : VE X a fa) (hb : VE X (.BoolOp .Or (b :: rest) pos) fb) : VE X (.BoolOp .Or (a :: b :: rest) pos) (dOrV fa fb) := by
  obtain ⟨t, p, q⟩ := ha
  obtain ⟨t', p', q'⟩ := hb
  refine ⟨_, pe_or p p', fun B G0 G σ H env d Q s ef k => ?_⟩
  unfold dOrV at ef
  split at ef
  · rename_i e
    cases ef
    refine q B G0 G σ H env _ _ s e fun v G1 H1 t1 r => ?_
    cases r
    exact ⟨_, rfl, iteT (k _ G1 H1 t1 (.bl true))⟩
  · rename_i e
    refine q B G0 G σ H env _ _ s e fun v G1 H1 t1 r => ?_
    cases r
    exact ⟨_, rfl, iteF (q' B G0 G1 σ H1 env d Q (s.tr t1) ef fun v G2 H2 t2 r2 => k v G2 H2 (t1.trans t2) r2)⟩
  · cases ef
theorem ve_not (ha : VE X a fa) : VE X (.UnaryOp .Not a pos) (dNotV fa) := by
  obtain ⟨t, p, q⟩ := ha
  refine ⟨_, pe_not p, fun B G0 G σ H env d Q s ef k => ?_⟩
  unfold dNotV at ef
  split at ef
  · rename_i e
    cases ef
    refine q B G0 G σ H env _ _ s e fun v G1 H1 t1 r => ?_
    cases r
    exact ⟨_, rfl, k _ G1 H1 t1 (.bl _)⟩
  · cases ef
end
end VL

set_option Elab.async false
set_option linter.all false
set_option maxRecDepth 100000
set_option maxHeartbeats 4000000
namespace VL
open PySem PySem.Spec PyProof.Rows L2

/-! ### lists of arguments: true: lent, false: handed on -/
inductive ArgsOk (K : PySem.W.Frag) (G H : Hp) : List Bool → List V → List D → Prop
  | nil : ArgsOk K G H [] [] []
  | lent {ms : List Bool} {v : V} {vs : List V} {d : D} {ds : List D} : Op K G H v d → ArgsOk K G H ms vs ds → ArgsOk K G H (true :: ms) (v :: vs) (d :: ds)
  | kept {ms : List Bool} {v : V} {vs : List V} {d : D} {ds : List D} : Dp K G v d → ArgsOk K G H ms vs ds → ArgsOk K G H (false :: ms) (v :: vs) (d :: ds)
theorem ArgsOk.len1 {K : PySem.W.Frag} {G H : Hp} : ∀ {ms : List Bool} {vs : List V} {ds : List D}, ArgsOk K G H ms vs ds → vs.length = ms.length
  | _, _, _, .nil => rfl
  | _, _, _, .lent _ t => by rw [List.length_cons, List.length_cons, t.len1]
  | _, _, _, .kept _ t => by rw [List.length_cons, List.length_cons, t.len1]
theorem ArgsOk.len2 {K : PySem.W.Frag} {G H : Hp} : ∀ {ms : List Bool} {vs : List V} {ds : List D}, ArgsOk K G H ms vs ds → ds.length = ms.length
  | _, _, _, .nil => rfl
  | _, _, _, .lent _ t => by rw [List.length_cons, List.length_cons, t.len2]
  | _, _, _, .kept _ t => by rw [List.length_cons, List.length_cons, t.len2]
theorem ArgsOk.all {K : PySem.W.Frag} {G H : Hp} : ∀ {ms : List Bool} {vs : List V} {ds : List D}, ArgsOk K G H ms vs ds → ms.all (fun b => !b) = true → DpAll K G vs ds
  | _, _, _, .nil, _ => .nil
  | _, _, _, .lent _ t, e => by simp at e
  | _, _, _, .kept r t, e => .cons r (t.all (by simpa using e))
def VA (X : Cx) (es : List Expr) (ms : List Bool) (f : DL) : Prop := ∃ t, PA X es t ∧ ∀ B G0 G σ H env ds (Q : List V → Hp → Prop), VSt X.K B G0 G σ H env → f env = some ds →
  (∀ vs G' H', Tr G H G' H' → ArgsOk X.K G' H' ms vs ds → Q vs H') → t σ H Q
def aNil : DL := fun _ => some []
def aCons (f : DE) (g : DL) : DL := fun env => match f env with
  | some d => (match g env with
    | some ds => some (d :: ds)
    | none => none)
  | none => none
theorem aCons_some {f : DE} {g : DL} {env : En} {xs : List D} (h : aCons f g env = some xs) : ∃ d ds, f env = some d ∧ g env = some ds ∧ xs = d :: ds := by
  unfold aCons at h
  cases e1 : f env with
  | none => rw [e1] at h; cases h
  | some x =>
    cases e2 : g env with
    | none => rw [e1, e2] at h; cases h
    | some y => rw [e1, e2] at h; cases h; exact ⟨x, y, rfl, rfl, rfl⟩
section
variable {X : Cx} {a b c e : Expr} {es : List Expr} {fa fb fc f : DE} {fl g : DL} {ms : List Bool} {pos : Pos}
theorem va_nil : VA X [] [] aNil := ⟨_, pa_nil, fun B G0 G σ H env ds Q s ef k => by cases ef; exact k [] G H (Tr.refl s.gh) .nil⟩
theorem va_e (h : VE X e f) (t : VA X es ms g) (hs : starEach (e :: es) X.env = (false, eval e X.env) :: starEach es X.env := by rfl) : VA X (e :: es) (false :: ms) (aCons f g) := by
  obtain ⟨ta, pa, qa⟩ := h
  obtain ⟨tb, pb, qb⟩ := t
  refine ⟨_, pa_cons pa pb hs, fun B G0 G σ H env xs Q s ef k => ?_⟩
  obtain ⟨d, ds, e1, e2, rfl⟩ := aCons_some ef
  refine qa B G0 G σ H env d _ s e1 fun v G1 H1 t1 r1 => ?_
  refine qb B G0 G1 σ H1 env ds _ (s.tr t1) e2 fun vs G2 H2 t2 r2 => ?_
  exact k (v :: vs) G2 H2 (t1.trans t2) (.kept (dp_mono t2.gg _ r1) r2)
theorem va_o (h : VO X e f) (t : VA X es ms g) (hs : starEach (e :: es) X.env = (false, eval e X.env) :: starEach es X.env := by rfl) : VA X (e :: es) (true :: ms) (aCons f g) := by
  obtain ⟨ta, pa, qa⟩ := h
  obtain ⟨tb, pb, qb⟩ := t
  refine ⟨_, pa_cons pa pb hs, fun B G0 G σ H env xs Q s ef k => ?_⟩
  obtain ⟨d, ds, e1, e2, rfl⟩ := aCons_some ef
  refine qa B G0 G σ H env d _ s e1 fun v G1 H1 t1 r1 => ?_
  refine qb B G0 G1 σ H1 env ds _ (s.tr t1) e2 fun vs G2 H2 t2 r2 => ?_
  exact k (v :: vs) G2 H2 (t1.trans t2) (.lent (r1.mono t2.gg t2.hh) r2)
def toT (f : DL) : DE := fun env => match f env with | some xs => some (.tuple xs) | none => none
theorem few {n : Nat} (h : n ≤ 1000) : n ≤ sizeLine := Nat.le_trans h (by decide)
theorem ve_tup {k : Nat} (h : VA X es ms g) (ha : ms.all (fun b => !b) = true := by rfl) (hz : ms.length ≤ 1000 := by decide) : VE X (.Tuple es k pos) (toT g) := by
  obtain ⟨t, p, q⟩ := h
  refine ⟨_, pe_tup p, fun B G0 G σ H env d Q s ef k => ?_⟩
  unfold toT at ef
  cases e1 : g env with
  | none => rw [e1] at ef; cases ef
  | some xs =>
    rw [e1] at ef; cases ef
    refine q B G0 G σ H env xs _ s e1 fun vs G1 H1 t1 r1 => ⟨by rw [r1.len1]; exact few hz, fun p np => ?_⟩
    have t2 := Tr.new (o := .tup vs) t1.gh np
    exact k (.ref p) _ _ (t1.trans t2) (.tup (.inl (.inl upd_same)) (dpAll_mono t2.gg _ (r1.all ha)))
theorem vf_lst (h : VA X es ms g) (ha : ms.all (fun b => !b) = true := by rfl) (hz : ms.length ≤ 1000 := by decide) : VF X (.List es pos) g := by
  obtain ⟨t, p, q⟩ := h
  refine ⟨_, pe_lst p, fun B G0 G σ H env xs Q s ef k => ?_⟩
  refine q B G0 G σ H env xs _ s ef fun vs G1 H1 t1 r1 => ⟨by rw [r1.len1]; exact few hz, fun p np => ?_⟩
  have t2 := Tr.tmp (o := .lst vs) t1.gh np
  exact k (.ref p) _ _ (t1.trans t2) ⟨p, vs, rfl, upd_same, t1.gh.free np, t1.hh.free np, r1.all ha⟩

/-! ### places -/
theorem op_seq {K : PySem.W.Frag} {G H : Hp} (sg : Same G H) {v : V} {ds : List D} (h : Op K G H v (.list ds)) : ∃ l vs, v = .ref l ∧ SqL K H l vs ∧ DpAll K G vs ds := h
theorem op_tup {K : PySem.W.Frag} {G H : Hp} (sg : Same G H) {v : V} {ds : List D} (h : Op K G H v (.tuple ds)) : ∃ l vs, v = .ref l ∧ SqT K H l vs ∧ DpAll K G vs ds := by
  cases h with
  | tup s a => exact ⟨_, _, rfl, same_sqT sg s, a⟩
def kIx : D → D → Option D
  | .list ds, .int i => atI ds i
  | .tuple ds, .int i => atI ds i
  | _, _ => none
theorem atI_dp {K : PySem.W.Frag} {G : Hp} {vs : List V} {ds : List D} {i : Int} {d : D} (a : DpAll K G vs ds) (h : atI ds i = some d) : ∃ v, atI vs i = some v ∧ Dp K G v d := by
  unfold atI at h ⊢
  rw [dpAll_length a]
  cases e : ixN ds.length i with
  | none => rw [e] at h; cases h
  | some j =>
    rw [e] at h
    exact dpAll_get a h
theorem ve_ix (ha : VO X a fa) (hb : VO X b fb) (hs : PlainIx b := by exact fun _ _ => rfl) : VE X (.Subscript a b pos) (d2 kIx fa fb) := by
  obtain ⟨ta, pa, qa⟩ := ha
  obtain ⟨tb, pb, qb⟩ := hb
  refine ⟨_, pe_ix ix_seq pa pb hs, fun B G0 G σ H env d Q s ef q => ?_⟩
  obtain ⟨x, y, e1, e2, e3⟩ := d2_some ef
  refine two (R := fun v w H2 => rIx X.K v w H2 Q) qa qb s e1 e2 fun v w G1 H1 t r1 r2 => ?_
  unfold kIx at e3
  split at e3
  · cases r2
    obtain ⟨l, vs, e4, sq, al⟩ := op_seq t.gh r1
    obtain ⟨u, h1, h2⟩ := atI_dp al e3
    exact .inl ⟨l, vs, _, u, e4, rfl, sq, h1, q u G1 H1 t h2⟩
  · cases r2
    obtain ⟨l, vs, e4, sq, al⟩ := op_tup t.gh r1
    obtain ⟨u, h1, h2⟩ := atI_dp al e3
    exact .inr (.inl ⟨l, vs, _, u, e4, rfl, sq, h1, q u G1 H1 t h2⟩)
  · cases e3

/-! ### slices -/
abbrev DP := En → Option (Option Int)
def VP (X : Cx) (e : Option Expr) (f : DP) : Prop := ∃ t, PO X e t ∧ ∀ B G0 G σ H env o (Q : Option Int → Hp → Prop), VSt X.K B G0 G σ H env → f env = some o →
  (∀ G' H', Tr G H G' H' → Q o H') → t σ H Q
def pNo : DP := fun _ => some none
def pAt (f : DE) : DP := fun env => match f env with
  | some (.int i) => some (some i)
  | _ => none
theorem vp_none : VP X none pNo := ⟨_, po_none, fun B G0 G σ H env o Q s ef k => by cases ef; exact k G H (Tr.refl s.gh)⟩
theorem vp_some (h : VO X e f) : VP X (some e) (pAt f) := by
  obtain ⟨t, p, q⟩ := h
  refine ⟨_, po_some p, fun B G0 G σ H env o Q s ef k => ?_⟩
  unfold pAt at ef
  split at ef
  · cases ef
    rename_i e1
    refine q B G0 G σ H env _ _ s e1 fun v G1 H1 t1 r1 => ?_
    cases r1
    exact ⟨_, rfl, k G1 H1 t1⟩
  · cases ef
def cutD {α : Type} (xs : List α) (lo hi : Option Int) : List α := (xs.drop (HT.sIx xs.length 0 lo)).take (HT.sIx xs.length xs.length hi - HT.sIx xs.length 0 lo)
theorem cut_dp {K : PySem.W.Frag} {G : Hp} {vs : List V} {ds : List D} (a : DpAll K G vs ds) (lo hi : Option Int) : DpAll K G (cutV vs lo hi) (cutD ds lo hi) := by
  unfold cutV cutD
  rw [dpAll_length a]
  exact dpAll_take _ (dpAll_drop _ a)
def dCut (f : DE) (l h : DP) : DL := fun env => match f env with
  | some (.list ds) => (match l env with
    | some lo => (match h env with
      | some hi => some (cutD ds lo hi)
      | none => none)
    | none => none)
  | _ => none
theorem vf_cut {lo hi : Option Expr} {fl fh : DP} {p2 : Pos} (ha : VO X a fa) (hl : VP X lo fl) (hh : VP X hi fh) : VF X (.Subscript a (.Slice lo hi none p2) pos) (dCut fa fl fh) := by
  obtain ⟨ta, pa, qa⟩ := ha
  obtain ⟨tl, pl, ql⟩ := hl
  obtain ⟨th, ph, qh⟩ := hh
  refine ⟨_, pe_slice sl_list pa pl ph, fun B G0 G σ H env xs Q s ef k => ?_⟩
  unfold dCut at ef
  split at ef
  · rename_i e1
    split at ef
    · rename_i e2
      split at ef
      · rename_i e3
        cases ef
        refine qa B G0 G σ H env _ _ s e1 fun v G1 H1 t1 r1 => ?_
        refine ql B G0 G1 σ H1 env _ _ (s.tr t1) e2 fun G2 H2 t2 => ?_
        refine qh B G0 G2 σ H2 env _ _ ((s.tr t1).tr t2) e3 fun G3 H3 t3 => ?_
        obtain ⟨l, vs, e4, sq, al⟩ := r1.mono (t2.trans t3).gg (t2.trans t3).hh
        have t := (t1.trans t2).trans t3
        refine ⟨l, vs, e4, sq, fun p np => ?_⟩
        have t4 := Tr.tmp (o := .lst (cutV vs (by assumption) (by assumption))) t.gh np
        exact k (.ref p) _ _ (t.trans (Tr.tmp t.gh np)) ⟨p, _, rfl, upd_same, t.gh.free np, t.hh.free np, cut_dp al _ _⟩
      · cases ef
    · cases ef
  · cases ef
/-- xs[::-1] -/
def kRev : D → Option (List D)
  | .list ds => some ds.reverse
  | _ => none
theorem vf_rev {k : Nat} {p1 p2 p3 : Pos} (ha : VO X a fa) : VF X (.Subscript a (.Slice none none (some (.UnaryOp .USub (.Constant (.int 1) k p1) p2)) p3) pos) (d1 kRev fa) := by
  obtain ⟨ta, pa, qa⟩ := ha
  refine ⟨_, pe_revL pa, fun B G0 G σ H env xs Q s ef k => ?_⟩
  obtain ⟨x, e1, e3⟩ := d1_some ef
  refine qa B G0 G σ H env x _ s e1 fun v G1 H1 t r => ?_
  unfold kRev at e3
  split at e3
  · cases e3
    obtain ⟨l, vs, e4, sq, al⟩ := op_seq t.gh r
    exact ⟨l, vs, e4, sq, fun p np => k (.ref p) _ _ (t.trans (Tr.tmp t.gh np)) ⟨p, _, rfl, upd_same, t.gh.free np, t.hh.free np, dpAll_reverse al⟩⟩
  · cases e3

/-! ### list + list -/
def rCatS (K : PySem.W.Frag) : R2 := fun x y H Q => ∃ l b xs zs, x = .ref l ∧ y = .ref b ∧ SqL K H l xs ∧ SqL K H b zs ∧ xs.length + zs.length ≤ sizeLine ∧ ∀ p, H p = none → Q (.ref p) (upd H p (.lst (xs ++ zs)))
theorem op_catS : OpR X (binaryOp .Add) (rCatS X.K) := by
  intro pins s σ H x y v u Q I rx ry h
  obtain ⟨l, b, xs, zs, rfl, rfl, hH, hB, hz, q⟩ := h
  cases rx
  cases ry
  obtain ⟨its, r, ⟨⟨cls, dd, data, sl⟩, n, ho, hc, h0, hd⟩, z⟩ := I.list hH
  obtain ⟨its2, r2, ⟨⟨cls2, dd2, data2, sl2⟩, n2, ho2, hc2, h02, hd2⟩, z2⟩ := I.list hB
  simp only at hc hd hc2 hd2
  subst hc hd hc2 hd2
  have e : its.toArray ++ its2.toArray = (its ++ its2).toArray := by simp
  refine concat_meets ⟨_, ho, rfl⟩ ⟨_, ho2, rfl⟩ noFill_list_add seq_list_add PySem.F.slot_list_add PySem.F.entry_list_add (PySem.F.args_list_add_2 _ _)
    (list_addW l b its.toArray its2.toArray n n2 dd dd2 sl sl2 (by rw [List.size_toArray, List.size_toArray, ← r.length, ← r2.length]; exact hz)) ⟨ho, ho2, ?_⟩
  rw [e]
  exact ⟨.ref _, _, I.lnew (t' := s.toks) (r.append r2) (by rw [List.length_append]; omega), rfl, q _ I.fresh⟩
def sizeD : Nat := sizeLine
def kCat : D → D → Option (List D)
  | .list xs, .list ys => if xs.length + ys.length ≤ sizeD then some (xs ++ ys) else none
  | _, _ => none
theorem vf_cat (ha : VO X a fa) (hb : VO X b fb) : VF X (.BinOp a .Add b pos) (d2 kCat fa fb) := by
  obtain ⟨ta, pa, qa⟩ := ha
  obtain ⟨tb, pb, qb⟩ := hb
  refine ⟨_, pe_op op_catS pa pb, fun B G0 G σ H env xs Q s ef q => ?_⟩
  obtain ⟨x, y, e1, e2, e3⟩ := d2_some ef
  refine two (R := fun v w H2 => rCatS X.K v w H2 Q) qa qb s e1 e2 fun v w G1 H1 t r1 r2 => ?_
  unfold kCat at e3
  split at e3
  · split at e3
    · rename_i hz
      cases e3
      obtain ⟨l, vs, e4, sq, al⟩ := op_seq t.gh r1
      obtain ⟨l', ws, e5, sq', al'⟩ := op_seq t.gh r2
      refine ⟨l, l', vs, ws, e4, e5, sq, sq', by rw [dpAll_length al, dpAll_length al']; exact hz, fun p np => ?_⟩
      exact q (.ref p) _ _ (t.trans (Tr.tmp t.gh np)) ⟨p, _, rfl, upd_same, t.gh.free np, t.hh.free np, dpAll_append al al'⟩
    · cases e3
  · cases e3
end
end VL

set_option Elab.async false
set_option linter.all false
set_option maxRecDepth 100000
set_option maxHeartbeats 4000000
namespace VL
open PySem PySem.Spec PyProof.Rows L2

/-! ### built-in functions of one argument -/
/-- values in, a settled value out -/
def Cr1 (K : PySem.W.Frag) (r : List V → Hp → VK → Prop) (k : D → Option D) : Prop := ∀ G H v x z (Q : VK), Same G H → Op K G H v x → k x = some z →
  (∀ u G' H', Tr G H G' H' → Dp K G' u z → Q u H') → r [v] H Q
def Cr1F (K : PySem.W.Frag) (r : List V → Hp → VK → Prop) (k : D → Option (List D)) : Prop := ∀ G H v x z (Q : VK), Same G H → Op K G H v x → k x = some z →
  (∀ u G' H', Tr G H G' H' → Own K H G' H' u z → Q u H') → r [v] H Q
section
variable {X : Cx} {a b c e : Expr} {es : List Expr} {fa fb fc f : DE} {fl g : DL} {ms : List Bool} {pos p p2 : Pos} {x : Str} {id : String} {r : List V → Hp → VK → Prop}
theorem ve_b1 {k : D → Option D} (hc : CallR X (.builtin id) r) (hk : Cr1 X.K r k) (hg : Gl X x) (hm : X.mg x = none) (hv : bootBuiltins x = some (.builtin id)) (ha : VO X a fa) (hn : x ≠ "__name__" := by decide) (hdb : (x == ("__debug__" : Str)) = false := by decide)
    (he : starEach [a] X.env = (false, eval a X.env) :: starEach [] X.env := by rfl) : VE X (.Call (.Name x p) [a] [] pos) (d1 k fa) := by
  obtain ⟨t, pa, q⟩ := ha
  refine ⟨_, pe_callB hc hg hm hv (pa_cons pa pa_nil he) hn hdb he, fun B G0 G σ H env d Q s ef k2 => ?_⟩
  obtain ⟨x, e1, e3⟩ := d1_some ef
  refine q B G0 G σ H env x _ s e1 fun v G1 H1 t1 r1 => ?_
  exact hk G1 H1 v x d Q t1.gh r1 e3 fun u G2 H2 t2 r2 => k2 u G2 H2 (t1.trans t2) r2
theorem ve_t1 {k : D → Option D} (hc : CallR X (.type id) r) (hk : Cr1 X.K r k) (hg : Gl X x) (hm : X.mg x = none) (hv : bootBuiltins x = some (.type id)) (ha : VO X a fa) (hn : x ≠ "__name__" := by decide) (hdb : (x == ("__debug__" : Str)) = false := by decide)
    (he : starEach [a] X.env = (false, eval a X.env) :: starEach [] X.env := by rfl) : VE X (.Call (.Name x p) [a] [] pos) (d1 k fa) := by
  obtain ⟨t, pa, q⟩ := ha
  refine ⟨_, pe_callTy hc hg hm hv (pa_cons pa pa_nil he) hn hdb he, fun B G0 G σ H env d Q s ef k2 => ?_⟩
  obtain ⟨x, e1, e3⟩ := d1_some ef
  refine q B G0 G σ H env x _ s e1 fun v G1 H1 t1 r1 => ?_
  exact hk G1 H1 v x d Q t1.gh r1 e3 fun u G2 H2 t2 r2 => k2 u G2 H2 (t1.trans t2) r2
theorem vf_b1 {k : D → Option (List D)} (hc : CallR X (.builtin id) r) (hk : Cr1F X.K r k) (hg : Gl X x) (hm : X.mg x = none) (hv : bootBuiltins x = some (.builtin id)) (ha : VO X a fa) (hn : x ≠ "__name__" := by decide) (hdb : (x == ("__debug__" : Str)) = false := by decide)
    (he : starEach [a] X.env = (false, eval a X.env) :: starEach [] X.env := by rfl) : VF X (.Call (.Name x p) [a] [] pos) (d1 k fa) := by
  obtain ⟨t, pa, q⟩ := ha
  refine ⟨_, pe_callB hc hg hm hv (pa_cons pa pa_nil he) hn hdb he, fun B G0 G σ H env d Q s ef k2 => ?_⟩
  obtain ⟨x, e1, e3⟩ := d1_some ef
  refine q B G0 G σ H env x _ s e1 fun v G1 H1 t1 r1 => ?_
  refine hk G1 H1 v x d Q t1.gh r1 e3 fun u G2 H2 t2 r2 => k2 u G2 H2 (t1.trans t2) ?_
  obtain ⟨l, vs, h1, h2, h3, h4, h5⟩ := r2
  exact ⟨l, vs, h1, h2, h3, t1.hh.free h4, h5⟩
theorem vf_t1 {k : D → Option (List D)} (hc : CallR X (.type id) r) (hk : Cr1F X.K r k) (hg : Gl X x) (hm : X.mg x = none) (hv : bootBuiltins x = some (.type id)) (ha : VO X a fa) (hn : x ≠ "__name__" := by decide) (hdb : (x == ("__debug__" : Str)) = false := by decide)
    (he : starEach [a] X.env = (false, eval a X.env) :: starEach [] X.env := by rfl) : VF X (.Call (.Name x p) [a] [] pos) (d1 k fa) := by
  obtain ⟨t, pa, q⟩ := ha
  refine ⟨_, pe_callTy hc hg hm hv (pa_cons pa pa_nil he) hn hdb he, fun B G0 G σ H env d Q s ef k2 => ?_⟩
  obtain ⟨x, e1, e3⟩ := d1_some ef
  refine q B G0 G σ H env x _ s e1 fun v G1 H1 t1 r1 => ?_
  refine hk G1 H1 v x d Q t1.gh r1 e3 fun u G2 H2 t2 r2 => k2 u G2 H2 (t1.trans t2) ?_
  obtain ⟨l, vs, h1, h2, h3, h4, h5⟩ := r2
  exact ⟨l, vs, h1, h2, h3, t1.hh.free h4, h5⟩
/-- len -/
def kLen : D → Option D
  | .list ds => some (.int (ds.length : Nat))
  | .tuple ds => some (.int (ds.length : Nat))
  | _ => none
theorem ve_len (hg : Gl X "len") (hm : X.mg "len" = none) (ha : VO X a fa) (he : starEach [a] X.env = (false, eval a X.env) :: starEach [] X.env := by rfl) : VE X (.Call (.Name "len" p) [a] [] pos) (d1 kLen fa) := by
  refine ve_b1 call_len ?_ hg hm PySem.boot_len ha (he := he)
  intro G H v x z Q sg r1 e q
  unfold kLen at e
  split at e
  · cases e
    obtain ⟨l, vs, e4, sq, al⟩ := op_seq sg r1
    subst e4
    exact ⟨_, vs.length, rfl, .inl ⟨vs, sq, rfl⟩, q _ G H (Tr.refl sg) (by rw [dpAll_length al]; exact .int _)⟩
  · cases e
    obtain ⟨l, vs, e4, sq, al⟩ := op_tup sg r1
    subst e4
    exact ⟨_, vs.length, rfl, .inr ⟨vs, sq, rfl⟩, q _ G H (Tr.refl sg) (by rw [dpAll_length al]; exact .int _)⟩
  · cases e
/-- abs -/
def kAbs : D → Option D
  | .int i => some (.int (if i < 0 then -i else i))
  | _ => none
theorem ve_abs (hg : Gl X "abs") (hm : X.mg "abs" = none) (ha : VO X a fa) (he : starEach [a] X.env = (false, eval a X.env) :: starEach [] X.env := by rfl) : VE X (.Call (.Name "abs" p) [a] [] pos) (d1 kAbs fa) := by
  refine ve_b1 call_abs ?_ hg hm PyProof.Rows.boot_abs ha (he := he)
  intro G H v x z Q sg r1 e q
  unfold kAbs at e
  split at e
  · cases e; cases r1
    exact ⟨_, rfl, q _ G H (Tr.refl sg) (.int _)⟩
  · cases e
/-- int -/
def kInt : D → Option D
  | .int i => some (.int i)
  | .bool b => some (.int (if b then 1 else 0))
  | _ => none
theorem ve_toInt (hg : Gl X "int") (hm : X.mg "int" = none) (ha : VO X a fa) (he : starEach [a] X.env = (false, eval a X.env) :: starEach [] X.env := by rfl) : VE X (.Call (.Name "int" p) [a] [] pos) (d1 kInt fa) := by
  refine ve_t1 call_int1 ?_ hg hm PyProof.Rows.boot_int ha (he := he)
  intro G H v x z Q sg r1 e q
  unfold kInt at e
  split at e
  · cases e; cases r1
    exact .inl ⟨_, rfl, q _ G H (Tr.refl sg) (.int _)⟩
  · cases e; cases r1
    exact .inr ⟨_, rfl, q _ G H (Tr.refl sg) (.int _)⟩
  · cases e
/-- lists of ints -/
def ints? : List D → Option (List Int)
  | [] => some []
  | .int i :: r => (match ints? r with
    | some ns => some (i :: ns)
    | none => none)
  | _ :: _ => none
theorem ints?_some : ∀ {ds : List D} {ns : List Int}, ints? ds = some ns → ds = ns.map PyData.int
  | [], ns, h => by cases h; rfl
  | .int i :: r, ns, h => by
    unfold ints? at h
    cases e : ints? r with
    | none => rw [e] at h; cases h
    | some ms => rw [e] at h; cases h; rw [ints?_some e]; rfl
  | .none :: _, _, h => by cases h
  | .bool _ :: _, _, h => by cases h
  | .str _ :: _, _, h => by cases h
  | .list _ :: _, _, h => by cases h
  | .tuple _ :: _, _, h => by cases h
  | .dict _ :: _, _, h => by cases h
theorem ints?_map : ∀ ns : List Int, ints? (ns.map PyData.int) = some ns
  | [] => rfl
  | n :: ns => by
    show (match ints? (ns.map PyData.int) with | some ms => some (n :: ms) | none => none) = _
    rw [ints?_map ns]
def maxI : List Int → Int → Int
  | [], m => m
  | n :: ns, m => maxI ns (if m < n then n else m)
def minI : List Int → Int → Int
  | [], m => m
  | n :: ns, m => minI ns (if n < m then n else m)
theorem maxI_spec : ∀ (ns : List Int) (m : Int), (maxI ns m = m ∨ maxI ns m ∈ ns) ∧ m ≤ maxI ns m ∧ ∀ n ∈ ns, n ≤ maxI ns m
  | [], m => ⟨.inl rfl, Int.le_refl _, by simp⟩
  | n :: ns, m => by
    have h := maxI_spec ns (if m < n then n else m)
    have e0 : maxI (n :: ns) m = maxI ns (if m < n then n else m) := rfl
    rw [e0]
    refine ⟨?_, ?_, ?_⟩
    · rcases h.1 with z | z
      · rw [z]; split
        · exact .inr List.mem_cons_self
        · exact .inl rfl
      · exact .inr (List.mem_cons_of_mem _ z)
    · have := h.2.1; split at this <;> rename_i q <;> simp only [q, if_true, if_false] <;> omega
    · intro y hy
      rcases List.mem_cons.mp hy with rfl | hy
      · have := h.2.1; split at this <;> rename_i q <;> simp only [q, if_true, if_false] <;> omega
      · exact h.2.2 y hy
theorem minI_spec : ∀ (ns : List Int) (m : Int), (minI ns m = m ∨ minI ns m ∈ ns) ∧ minI ns m ≤ m ∧ ∀ n ∈ ns, minI ns m ≤ n
  | [], m => ⟨.inl rfl, Int.le_refl _, by simp⟩
  | n :: ns, m => by
    have h := minI_spec ns (if n < m then n else m)
    have e0 : minI (n :: ns) m = minI ns (if n < m then n else m) := rfl
    rw [e0]
    refine ⟨?_, ?_, ?_⟩
    · rcases h.1 with z | z
      · rw [z]; split
        · exact .inr List.mem_cons_self
        · exact .inl rfl
      · exact .inr (List.mem_cons_of_mem _ z)
    · have := h.2.1; split at this <;> rename_i q <;> simp only [q, if_true, if_false] <;> omega
    · intro y hy
      rcases List.mem_cons.mp hy with rfl | hy
      · have := h.2.1; split at this <;> rename_i q <;> simp only [q, if_true, if_false] <;> omega
      · exact h.2.2 y hy
def kMax : D → Option D
  | .list ds => (match ints? ds with
    | some (n :: ns) => some (.int (maxI ns n))
    | _ => none)
  | _ => none
def kMin : D → Option D
  | .list ds => (match ints? ds with
    | some (n :: ns) => some (.int (minI ns n))
    | _ => none)
  | _ => none
theorem ve_max (hcm : X.calm = true) (hg : Gl X "max") (hm : X.mg "max" = none) (ha : VO X a fa) (he : starEach [a] X.env = (false, eval a X.env) :: starEach [] X.env := by rfl) : VE X (.Call (.Name "max" p) [a] [] pos) (d1 kMax fa) := by
  refine ve_b1 (cr_max hcm) ?_ hg hm PyProof.Rows.boot_max ha (he := he)
  intro G H v x z Q sg r1 e q
  unfold kMax at e
  split at e
  · split at e
    · rename_i n ns e1
      cases e
      cases ints?_some e1
      obtain ⟨l, vs, e4, sq, al⟩ := op_seq sg r1
      cases dpAll_of_ints (ns := n :: ns) al
      subst e4
      refine ⟨l, n :: ns, rfl, sq, by simp, fun m hm hy => ?_⟩
      have h := maxI_spec ns n
      have e5 : m = maxI ns n := by
        have h1 := hy (maxI ns n) (by rcases h.1 with z | z; rw [z]; exact List.mem_cons_self; exact List.mem_cons_of_mem _ z)
        have h2 : m ≤ maxI ns n := by
          rcases List.mem_cons.mp hm with z | z
          · rw [z]; exact h.2.1
          · exact h.2.2 m z
        omega
      rw [e5]
      exact q _ G H (Tr.refl sg) (.int _)
    · cases e
  · cases e
theorem ve_min (hcm : X.calm = true) (hg : Gl X "min") (hm : X.mg "min" = none) (ha : VO X a fa) (he : starEach [a] X.env = (false, eval a X.env) :: starEach [] X.env := by rfl) : VE X (.Call (.Name "min" p) [a] [] pos) (d1 kMin fa) := by
  refine ve_b1 (cr_min hcm) ?_ hg hm PyProof.Rows.boot_min ha (he := he)
  intro G H v x z Q sg r1 e q
  unfold kMin at e
  split at e
  · split at e
    · rename_i n ns e1
      cases e
      cases ints?_some e1
      obtain ⟨l, vs, e4, sq, al⟩ := op_seq sg r1
      cases dpAll_of_ints (ns := n :: ns) al
      subst e4
      refine ⟨l, n :: ns, rfl, sq, by simp, fun m hm hy => ?_⟩
      have h := minI_spec ns n
      have e5 : m = minI ns n := by
        have h1 := hy (minI ns n) (by rcases h.1 with z | z; rw [z]; exact List.mem_cons_self; exact List.mem_cons_of_mem _ z)
        have h2 : minI ns n ≤ m := by
          rcases List.mem_cons.mp hm with z | z
          · rw [z]; exact h.2.1
          · exact h.2.2 m z
        omega
      rw [e5]
      exact q _ G H (Tr.refl sg) (.int _)
    · cases e
  · cases e
def kSum : D → Option D
  | .list ds => (match ints? ds with
    | some ns => some (.int ns.sum)
    | _ => none)
  | _ => none
theorem ve_sum (hcm : X.calm = true) (hg : Gl X "sum") (hm : X.mg "sum" = none) (ha : VO X a fa) (he : starEach [a] X.env = (false, eval a X.env) :: starEach [] X.env := by rfl) : VE X (.Call (.Name "sum" p) [a] [] pos) (d1 kSum fa) := by
  refine ve_b1 (cr_sum hcm) ?_ hg hm PyProof.Rows.boot_sum ha (he := he)
  intro G H v x z Q sg r1 e q
  unfold kSum at e
  split at e
  · split at e
    · rename_i ns e1
      cases e
      cases ints?_some e1
      obtain ⟨l, vs, e4, sq, al⟩ := op_seq sg r1
      cases dpAll_of_ints al
      subst e4
      exact ⟨l, ns, rfl, sq, q _ G H (Tr.refl sg) (.int _)⟩
    · cases e
  · cases e
/-- max, min of two -/
def k2Max : D → D → Option D := kI0 fun i j => if j > i then j else i
def k2Min : D → D → Option D := kI0 fun i j => if j < i then j else i
theorem ve_b2 {k : Int → Int → Int} {r : List V → Hp → VK → Prop} (hc : CallR X (.builtin id) r) (hr : ∀ i j H Q, Q (.int (k i j)) H → r [.int i, .int j] H Q) (hg : Gl X x) (hm : X.mg x = none) (hv : bootBuiltins x = some (.builtin id)) (ha : VO X a fa) (hb : VO X b fb) (hn : x ≠ "__name__" := by decide) (hdb : (x == ("__debug__" : Str)) = false := by decide)
    (he : starEach [a, b] X.env = (false, eval a X.env) :: starEach [b] X.env := by rfl) (he2 : starEach [b] X.env = (false, eval b X.env) :: starEach [] X.env := by rfl) (hpl : (backTo pos (starEach [b] X.env)).any (·.1) = false := by rfl) : VE X (.Call (.Name x p) [a, b] [] pos) (d2 (kI0 k) fa fb) := by
  obtain ⟨ta, pa, qa⟩ := ha
  obtain ⟨tb, pb, qb⟩ := hb
  refine ⟨_, pe_callB hc hg hm hv (pa_cons pa (pa_cons pb pa_nil he2) he) hn hdb he hpl, fun B G0 G σ H env d Q s ef q => ?_⟩
  obtain ⟨y, z, e1, e2, e3⟩ := d2_some ef
  refine two (R := fun v w H2 => r [v, w] H2 Q) qa qb s e1 e2 fun v w G1 H1 t r1 r2 => ?_
  unfold kI0 at e3
  split at e3
  · cases e3; cases r1; cases r2
    exact hr _ _ _ _ (q _ G1 H1 t (.int _))
  · cases e3
theorem ve_max2 (hcm : X.calm = true) (hg : Gl X "max") (hm : X.mg "max" = none) (ha : VO X a fa) (hb : VO X b fb)
    (he : starEach [a, b] X.env = (false, eval a X.env) :: starEach [b] X.env := by rfl) (he2 : starEach [b] X.env = (false, eval b X.env) :: starEach [] X.env := by rfl) (hpl : (backTo pos (starEach [b] X.env)).any (·.1) = false := by rfl) : VE X (.Call (.Name "max" p) [a, b] [] pos) (d2 k2Max fa fb) :=
  ve_b2 (call_max2 hcm) (fun i j H Q q => ⟨i, j, rfl, q⟩) hg hm PyProof.Rows.boot_max ha hb (he := he) (he2 := he2) (hpl := hpl)
theorem ve_min2 (hcm : X.calm = true) (hg : Gl X "min") (hm : X.mg "min" = none) (ha : VO X a fa) (hb : VO X b fb)
    (he : starEach [a, b] X.env = (false, eval a X.env) :: starEach [b] X.env := by rfl) (he2 : starEach [b] X.env = (false, eval b X.env) :: starEach [] X.env := by rfl) (hpl : (backTo pos (starEach [b] X.env)).any (·.1) = false := by rfl) : VE X (.Call (.Name "min" p) [a, b] [] pos) (d2 k2Min fa fb) :=
  ve_b2 (call_min2 hcm) (fun i j H Q q => ⟨i, j, rfl, q⟩) hg hm PyProof.Rows.boot_min ha hb (he := he) (he2 := he2) (hpl := hpl)
/-- list(xs) -/
def kList : D → Option (List D)
  | .list ds => some ds
  | .tuple ds => some ds
  | _ => none
theorem vf_toList (hg : Gl X "list") (hm : X.mg "list" = none) (ha : VO X a fa) (he : starEach [a] X.env = (false, eval a X.env) :: starEach [] X.env := by rfl) : VF X (.Call (.Name "list" p) [a] [] pos) (d1 kList fa) := by
  refine vf_t1 call_list_of ?_ hg hm PyProof.Rows.boot_list ha (he := he)
  intro G H v x z Q sg r1 e q
  unfold kList at e
  split at e
  · cases e
    obtain ⟨l, vs, e4, sq, al⟩ := op_seq sg r1
    subst e4
    exact ⟨l, vs, rfl, .inl sq, fun p np => q _ _ _ (Tr.tmp sg np) ⟨p, vs, rfl, upd_same, sg.free np, np, al⟩⟩
  · cases e
    obtain ⟨l, vs, e4, sq, al⟩ := op_tup sg r1
    subst e4
    exact ⟨l, vs, rfl, .inr sq, fun p np => q _ _ _ (Tr.tmp sg np) ⟨p, vs, rfl, upd_same, sg.free np, np, al⟩⟩
  · cases e
/-- isinstance(x, T) -/
def tyD : D → String
  | .none => "NoneType"
  | .bool _ => "bool"
  | .int _ => "int"
  | .str _ => "str"
  | .list _ => "list"
  | .tuple _ => "tuple"
  | .dict _ => "dict"
def kIsi (T : String) (d : D) : Option D := match kitB (tyD d) T with
  | some b => some (.bool b)
  | none => none
theorem op_ty {K : PySem.W.Frag} {G H : Hp} {v : V} {d : D} (sg : Same G H) (r : Op K G H v d) : TyX K H v (.type (tyD d)) := by
  cases d with
  | none => cases r; exact .base .non
  | bool b => cases r; exact .base (.bl _)
  | int b => cases r; exact .base (.int _)
  | str b => cases r; exact .base (.str _)
  | list b =>
    obtain ⟨l, vs, e, sq, al⟩ := op_seq sg r
    subst e
    rcases sq with sq | ⟨o, its, n, hk, hc, _⟩
    · rcases sq with sq | ⟨o, sq⟩
      · exact .base (.lst sq)
      · exact .base (.frz sq)
    · exact .kList hk hc
  | tuple b =>
    obtain ⟨l, vs, e, sq, al⟩ := op_tup sg r
    subst e
    rcases sq with sq | ⟨o, its, n, hk, hc, _⟩
    · rcases sq with sq | ⟨o, sq⟩
      · exact .base (.tup sq)
      · exact .fTuple sq
    · exact .kTuple hk hc
  | dict b => cases r
theorem ve_isi {T : String} {y : Str} (hg : Gl X "isinstance") (hm : X.mg "isinstance" = none) (hgy : Gl X y) (hmy : X.mg y = none) (hy : bootBuiltins y = some (.type T)) (ha : VO X a fa) (hn : y ≠ "__name__" := by decide) (hdb : (y == ("__debug__" : Str)) = false := by decide)
    (he : starEach [a, .Name y p2] X.env = (false, eval a X.env) :: starEach [.Name y p2] X.env := by rfl) (he2 : starEach [.Name y p2] X.env = (false, eval (.Name y p2) X.env) :: starEach [] X.env := by rfl) (hpl : (backTo pos (starEach [.Name y p2] X.env)).any (·.1) = false := by rfl) :
    VE X (.Call (.Name "isinstance" p) [a, .Name y p2] [] pos) (d1 (kIsi T) fa) := by
  obtain ⟨ta, pa, qa⟩ := ha
  have pb : PE X (.Name y p2) (tC (.ty T)) := pe_bltn hgy hmy hy rfl hn hdb
  refine ⟨_, pe_callB call_isi hg hm PyProof.Rows.boot_isinstance (pa_cons pa (pa_cons pb pa_nil he2) he) (by decide) (by decide) he hpl, fun B G0 G σ H env d Q s ef q => ?_⟩
  obtain ⟨x, e1, e3⟩ := d1_some ef
  refine qa B G0 G σ H env x _ s e1 fun v G1 H1 t1 r1 => ?_
  unfold kIsi at e3
  split at e3
  · rename_i bb e4
    cases e3
    exact ⟨v, .ty T, _, _, bb, rfl, .ty T, op_ty t1.gh r1, kit_ty e4, q _ G1 H1 t1 (.bl _)⟩
  · cases e3
/-- .. by the five types that are asked -/
def kIsiInt : D → Option D
  | .int _ => some (.bool true)
  | .bool _ => some (.bool true)
  | .dict _ => none
  | _ => some (.bool false)
def kIsiBool : D → Option D
  | .bool _ => some (.bool true)
  | .dict _ => none
  | _ => some (.bool false)
def kIsiStr : D → Option D
  | .str _ => some (.bool true)
  | .dict _ => none
  | _ => some (.bool false)
def kIsiList : D → Option D
  | .list _ => some (.bool true)
  | .dict _ => none
  | _ => some (.bool false)
def kIsiTup : D → Option D
  | .tuple _ => some (.bool true)
  | .dict _ => none
  | _ => some (.bool false)
theorem kit_a : kitB "NoneType" "int" = some false ∧ kitB "bool" "int" = some true ∧ kitB "int" "int" = some true ∧ kitB "str" "int" = some false ∧ kitB "list" "int" = some false ∧ kitB "tuple" "int" = some false := by decide +kernel
theorem kit_b : kitB "NoneType" "bool" = some false ∧ kitB "bool" "bool" = some true ∧ kitB "int" "bool" = some false ∧ kitB "str" "bool" = some false ∧ kitB "list" "bool" = some false ∧ kitB "tuple" "bool" = some false := by decide +kernel
theorem kit_c : kitB "NoneType" "str" = some false ∧ kitB "bool" "str" = some false ∧ kitB "int" "str" = some false ∧ kitB "str" "str" = some true ∧ kitB "list" "str" = some false ∧ kitB "tuple" "str" = some false := by decide +kernel
theorem kit_d : kitB "NoneType" "list" = some false ∧ kitB "bool" "list" = some false ∧ kitB "int" "list" = some false ∧ kitB "str" "list" = some false ∧ kitB "list" "list" = some true ∧ kitB "tuple" "list" = some false := by decide +kernel
theorem kit_e : kitB "NoneType" "tuple" = some false ∧ kitB "bool" "tuple" = some false ∧ kitB "int" "tuple" = some false ∧ kitB "str" "tuple" = some false ∧ kitB "list" "tuple" = some false ∧ kitB "tuple" "tuple" = some true := by decide +kernel
theorem isi_Int : ∀ d z, kIsiInt d = some z → kIsi "int" d = some z := by
  obtain ⟨h1, h2, h3, h4, h5, h6⟩ := kit_a
  intro d z e
  unfold kIsi
  cases d with
  | none => cases e; simp only [tyD, h1]
  | bool b => cases e; simp only [tyD, h2]
  | int b => cases e; simp only [tyD, h3]
  | str b => cases e; simp only [tyD, h4]
  | list b => cases e; simp only [tyD, h5]
  | tuple b => cases e; simp only [tyD, h6]
  | dict b => cases e
theorem isi_Bool : ∀ d z, kIsiBool d = some z → kIsi "bool" d = some z := by
  obtain ⟨h1, h2, h3, h4, h5, h6⟩ := kit_b
  intro d z e
  unfold kIsi
  cases d with
  | none => cases e; simp only [tyD, h1]
  | bool b => cases e; simp only [tyD, h2]
  | int b => cases e; simp only [tyD, h3]
  | str b => cases e; simp only [tyD, h4]
  | list b => cases e; simp only [tyD, h5]
  | tuple b => cases e; simp only [tyD, h6]
  | dict b => cases e
theorem isi_Str : ∀ d z, kIsiStr d = some z → kIsi "str" d = some z := by
  obtain ⟨h1, h2, h3, h4, h5, h6⟩ := kit_c
  intro d z e
  unfold kIsi
  cases d with
  | none => cases e; simp only [tyD, h1]
  | bool b => cases e; simp only [tyD, h2]
  | int b => cases e; simp only [tyD, h3]
  | str b => cases e; simp only [tyD, h4]
  | list b => cases e; simp only [tyD, h5]
  | tuple b => cases e; simp only [tyD, h6]
  | dict b => cases e
theorem isi_List : ∀ d z, kIsiList d = some z → kIsi "list" d = some z := by
  obtain ⟨h1, h2, h3, h4, h5, h6⟩ := kit_d
  intro d z e
  unfold kIsi
  cases d with
  | none => cases e; simp only [tyD, h1]
  | bool b => cases e; simp only [tyD, h2]
  | int b => cases e; simp only [tyD, h3]
  | str b => cases e; simp only [tyD, h4]
  | list b => cases e; simp only [tyD, h5]
  | tuple b => cases e; simp only [tyD, h6]
  | dict b => cases e
theorem isi_Tup : ∀ d z, kIsiTup d = some z → kIsi "tuple" d = some z := by
  obtain ⟨h1, h2, h3, h4, h5, h6⟩ := kit_e
  intro d z e
  unfold kIsi
  cases d with
  | none => cases e; simp only [tyD, h1]
  | bool b => cases e; simp only [tyD, h2]
  | int b => cases e; simp only [tyD, h3]
  | str b => cases e; simp only [tyD, h4]
  | list b => cases e; simp only [tyD, h5]
  | tuple b => cases e; simp only [tyD, h6]
  | dict b => cases e
theorem VE.to {e : Expr} {f g : DE} (h : VE X e f) (hg : ∀ env d, g env = some d → f env = some d) : VE X e g := by
  obtain ⟨t, p, q⟩ := h
  exact ⟨t, p, fun B G0 G σ H env d Q s ef k => q B G0 G σ H env d Q s (hg env d ef) k⟩
theorem d1_to {α : Type} {k k' : D → Option α} {f : DE} (h : ∀ d z, k d = some z → k' d = some z) : ∀ env z, d1 k f env = some z → d1 k' f env = some z := fun env z e => by
  obtain ⟨x, e1, e2⟩ := d1_some e
  unfold d1
  rw [e1]
  exact h x z e2
theorem ve_isiInt (hg : Gl X "isinstance") (hm : X.mg "isinstance" = none) (hgy : Gl X "int") (hmy : X.mg "int" = none) (ha : VO X a fa)
    (he : starEach [a, .Name "int" p2] X.env = (false, eval a X.env) :: starEach [.Name "int" p2] X.env := by rfl) (he2 : starEach [.Name "int" p2] X.env = (false, eval (.Name "int" p2) X.env) :: starEach [] X.env := by rfl) (hpl : (backTo pos (starEach [.Name "int" p2] X.env)).any (·.1) = false := by rfl) :
    VE X (.Call (.Name "isinstance" p) [a, .Name "int" p2] [] pos) (d1 kIsiInt fa) := (ve_isi hg hm hgy hmy PyProof.Rows.boot_int ha (by decide) (by decide) he he2 hpl).to (d1_to isi_Int)
theorem ve_isiBool (hg : Gl X "isinstance") (hm : X.mg "isinstance" = none) (hgy : Gl X "bool") (hmy : X.mg "bool" = none) (ha : VO X a fa)
    (he : starEach [a, .Name "bool" p2] X.env = (false, eval a X.env) :: starEach [.Name "bool" p2] X.env := by rfl) (he2 : starEach [.Name "bool" p2] X.env = (false, eval (.Name "bool" p2) X.env) :: starEach [] X.env := by rfl) (hpl : (backTo pos (starEach [.Name "bool" p2] X.env)).any (·.1) = false := by rfl) :
    VE X (.Call (.Name "isinstance" p) [a, .Name "bool" p2] [] pos) (d1 kIsiBool fa) := (ve_isi hg hm hgy hmy (by decide +kernel) ha (by decide) (by decide) he he2 hpl).to (d1_to isi_Bool)
theorem ve_isiStr (hg : Gl X "isinstance") (hm : X.mg "isinstance" = none) (hgy : Gl X "str") (hmy : X.mg "str" = none) (ha : VO X a fa)
    (he : starEach [a, .Name "str" p2] X.env = (false, eval a X.env) :: starEach [.Name "str" p2] X.env := by rfl) (he2 : starEach [.Name "str" p2] X.env = (false, eval (.Name "str" p2) X.env) :: starEach [] X.env := by rfl) (hpl : (backTo pos (starEach [.Name "str" p2] X.env)).any (·.1) = false := by rfl) :
    VE X (.Call (.Name "isinstance" p) [a, .Name "str" p2] [] pos) (d1 kIsiStr fa) := (ve_isi hg hm hgy hmy (by decide +kernel) ha (by decide) (by decide) he he2 hpl).to (d1_to isi_Str)
theorem ve_isiList (hg : Gl X "isinstance") (hm : X.mg "isinstance" = none) (hgy : Gl X "list") (hmy : X.mg "list" = none) (ha : VO X a fa)
    (he : starEach [a, .Name "list" p2] X.env = (false, eval a X.env) :: starEach [.Name "list" p2] X.env := by rfl) (he2 : starEach [.Name "list" p2] X.env = (false, eval (.Name "list" p2) X.env) :: starEach [] X.env := by rfl) (hpl : (backTo pos (starEach [.Name "list" p2] X.env)).any (·.1) = false := by rfl) :
    VE X (.Call (.Name "isinstance" p) [a, .Name "list" p2] [] pos) (d1 kIsiList fa) := (ve_isi hg hm hgy hmy PyProof.Rows.boot_list ha (by decide) (by decide) he he2 hpl).to (d1_to isi_List)
theorem ve_isiTup (hg : Gl X "isinstance") (hm : X.mg "isinstance" = none) (hgy : Gl X "tuple") (hmy : X.mg "tuple" = none) (ha : VO X a fa)
    (he : starEach [a, .Name "tuple" p2] X.env = (false, eval a X.env) :: starEach [.Name "tuple" p2] X.env := by rfl) (he2 : starEach [.Name "tuple" p2] X.env = (false, eval (.Name "tuple" p2) X.env) :: starEach [] X.env := by rfl) (hpl : (backTo pos (starEach [.Name "tuple" p2] X.env)).any (·.1) = false := by rfl) :
    VE X (.Call (.Name "isinstance" p) [a, .Name "tuple" p2] [] pos) (d1 kIsiTup fa) := (ve_isi hg hm hgy hmy PyProof.Rows.boot_tuple ha (by decide) (by decide) he he2 hpl).to (d1_to isi_Tup)
/-- list(range(n)), list(range(a, b)) -/
def cRg (a b : Int) : Bool := decide (a.natAbs < 4611686018427387904) && decide (b.natAbs < 4611686018427387904) && decide ((b - a).toNat ≤ 16777216)
def rgD (a b : Int) : List D := (List.range (b - a).toNat).map fun (i : Nat) => PyData.int (a + (i : Nat))
theorem rg_dp {K : PySem.W.Frag} {G : Hp} (a b : Int) : DpAll K G (rgV a b) (rgD a b) := by
  unfold rgV rgD
  induction (List.range (b - a).toNat) with
  | nil => exact .nil
  | cons n ns ih => exact .cons (.int _) ih
theorem cRg_ok {a b : Int} (h : cRg a b = true) : RgOk a b := by
  simp only [cRg, Bool.and_eq_true, decide_eq_true_eq] at h
  obtain ⟨⟨h1, h2⟩, h5⟩ := h
  exact ⟨by omega, by omega, by omega, by omega, h5⟩
def kLRg : D → D → Option (List D)
  | .int i, .int j => if cRg i j = true then some (rgD i j) else none
  | _, _ => none
theorem vf_listRg2 (hcm : X.calm = true) (hg : Gl X "list") (hm : X.mg "list" = none) (hg2 : Gl X "range") (hm2 : X.mg "range" = none) (ha : VO X a fa) (hb : VO X b fb)
    (na : starEach [a, b] X.env = (false, eval a X.env) :: starEach [b] X.env := by rfl) (nb : starEach [b] X.env = (false, eval b X.env) :: starEach [] X.env := by rfl) (hp : (backTo p2 (starEach [b] X.env)).any (·.1) = false := by rfl)
    {pr : Pos} (nr : starEach [.Call (.Name "range" pr) [a, b] [] p2] X.env = (false, eval (.Call (.Name "range" pr) [a, b] [] p2) X.env) :: starEach [] X.env := by rfl) : VF X (.Call (.Name "list" p) [.Call (.Name "range" pr) [a, b] [] p2] [] pos) (d2 kLRg fa fb) := by
  obtain ⟨ta, pa, qa⟩ := ha
  obtain ⟨tb, pb, qb⟩ := hb
  refine ⟨_, pe_listRg hcm hg hm (prg_2 hg2 hm2 pa pb na nb hp) nr, fun B G0 G σ H env d Q s ef q => ?_⟩
  obtain ⟨x, y, e1, e2, e3⟩ := d2_some ef
  refine two (R := fun v w H2 => ∃ i j, v = V.int i ∧ w = V.int j ∧ (RgOk i j ∧ ∀ q, H2 q = none → Q (.ref q) (upd H2 q (.lst (rgV i j))))) qa qb s e1 e2 fun v w G1 H1 t r1 r2 => ?_
  unfold kLRg at e3
  split at e3
  · split at e3
    · rename_i hc
      cases e3; cases r1; cases r2
      exact ⟨_, _, rfl, rfl, cRg_ok hc, fun p np => q _ _ _ (t.trans (Tr.tmp t.gh np)) ⟨p, _, rfl, upd_same, t.gh.free np, t.hh.free np, rg_dp _ _⟩⟩
    · cases e3
  · cases e3
def kLRg1 : D → Option (List D)
  | .int j => if cRg 0 j = true then some (rgD 0 j) else none
  | _ => none
theorem vf_listRg1 (hcm : X.calm = true) (hg : Gl X "list") (hm : X.mg "list" = none) (hg2 : Gl X "range") (hm2 : X.mg "range" = none) (ha : VO X a fa)
    (na : starEach [a] X.env = (false, eval a X.env) :: starEach [] X.env := by rfl)
    {pr : Pos} (nr : starEach [.Call (.Name "range" pr) [a] [] p2] X.env = (false, eval (.Call (.Name "range" pr) [a] [] p2) X.env) :: starEach [] X.env := by rfl) : VF X (.Call (.Name "list" p) [.Call (.Name "range" pr) [a] [] p2] [] pos) (d1 kLRg1 fa) := by
  obtain ⟨ta, pa, qa⟩ := ha
  refine ⟨_, pe_listRg hcm hg hm (prg_1 hg2 hm2 pa na) nr, fun B G0 G σ H env d Q s ef q => ?_⟩
  obtain ⟨x, e1, e3⟩ := d1_some ef
  refine qa B G0 G σ H env x _ s e1 fun v G1 H1 t r1 => ?_
  unfold kLRg1 at e3
  split at e3
  · split at e3
    · rename_i hc
      cases e3; cases r1
      exact ⟨_, rfl, cRg_ok hc, fun p np => q _ _ _ (t.trans (Tr.tmp t.gh np)) ⟨p, _, rfl, upd_same, t.gh.free np, t.hh.free np, rg_dp _ _⟩⟩
    · cases e3
  · cases e3
end
end VL

set_option Elab.async false
set_option linter.all false
set_option maxRecDepth 100000
set_option maxHeartbeats 4000000
namespace VL
open PySem PySem.Spec PyProof.Rows L2

/-! ### readings that hang on the written part alone -/
def tE (K : PySem.W.Frag) (f : DE) : TE := fun σ H Q => ∃ B G0 G env d, VSt K B G0 G σ H env ∧ f env = some d ∧ ∀ v G' H', Tr G H G' H' → Dp K G' v d → Q v H'
def tT (K : PySem.W.Frag) (f : DT) : TT := fun σ H Q => ∃ B G0 G env b, VSt K B G0 G σ H env ∧ f env = some b ∧ ∀ G' H', Tr G H G' H' → Q b H'
theorem VE.canon {X : Cx} {e : Expr} {f : DE} (h : VE X e f) : PE X e (tE X.K f) := by
  obtain ⟨t, p, q⟩ := h
  exact ⟨fun pins s σ H Q I ⟨B, G0, G, env, d, st, ef, k⟩ => p.run pins s σ H Q I (q B G0 G σ H env d Q st ef k)⟩
theorem VT.canon {X : Cx} {e : Expr} {f : DT} (h : VT X e f) : PT X e (tT X.K f) := by
  obtain ⟨t, p, q⟩ := h
  exact ⟨fun pins s σ H Q I ⟨B, G0, G, env, d, st, ef, k⟩ => p.run pins s σ H Q I (q B G0 G σ H env d Q st ef k)⟩

/-! ### targets -/
inductive Tg where
  | n (i : Nat) | t (is : List Nat)
def setL : List Nat → List D → En → En
  | i :: is, d :: ds, env => setL is ds (env.set i (some (.v d)))
  | _, _, env => env
def setT : Tg → D → En → Option En
  | .n i, d, env => some (env.set i (some (.v d)))
  | .t is, .tuple ds, env => if is.length = ds.length then some (setL is ds env) else none
  | _, _, _ => none
def gNames : List Nat → TGs
  | [] => gNil
  | i :: is => gCons (gName i) (gNames is)
def gT (K : PySem.W.Frag) : Tg → TG
  | .n i => gName i
  | .t is => gTup K is.length (gNames is)
def Tg.ix : Tg → List Nat
  | .n i => [i]
  | .t is => is
section
variable {K : PySem.W.Frag} {B G0 G H : Hp} {σ : Sg} {env : En}
theorem VSt.set {v : V} {d : D} (s : VSt K B G0 G σ H env) (r : Dp K G v d) (i : Nat) : VSt K B G0 G (σ.set i (some v)) H (env.set i (some (.v d))) where
  bh := s.bh
  gh := s.gh
  g0 := s.g0
  gf := s.gf
  ln := by rw [List.length_set, List.length_set, s.ln]
  sl := fun j x e => by
    by_cases q : i = j
    · subst q
      have hl : i < env.length := by
        rw [List.getElem?_eq_some_iff] at e
        obtain ⟨z, _⟩ := e
        rwa [List.length_set] at z
      rw [List.getElem?_set_self hl] at e
      cases e
      exact ⟨v, List.getElem?_set_self (by rw [← s.ln]; exact hl), r⟩
    · rw [List.getElem?_set_ne q] at e
      rw [List.getElem?_set_ne q]
      exact s.sl j x e
  dj := fun j k xs ys e1 e2 ne => by
    have n1 : i ≠ j := by
      rintro rfl
      have hl : i < env.length := by
        obtain ⟨z, _⟩ := List.getElem?_eq_some_iff.mp e1
        rwa [List.length_set] at z
      rw [List.getElem?_set_self hl] at e1; cases e1
    have n2 : i ≠ k := by
      rintro rfl
      have hl : i < env.length := by
        obtain ⟨z, _⟩ := List.getElem?_eq_some_iff.mp e2
        rwa [List.length_set] at z
      rw [List.getElem?_set_self hl] at e2; cases e2
    rw [List.getElem?_set_ne n1] at e1 ⊢
    rw [List.getElem?_set_ne n2] at e2 ⊢
    exact s.dj j k xs ys e1 e2 ne
/-- less is known -/
theorem VSt.less {env' : En} (s : VSt K B G0 G σ H env) (hl : env'.length = env.length) (h : ∀ (i : Nat) (x : Sl), env'[i]? = some (some x) → env[i]? = some (some x)) : VSt K B G0 G σ H env' where
  bh := s.bh
  gh := s.gh
  g0 := s.g0
  gf := s.gf
  ln := by rw [hl, s.ln]
  sl := fun i x e => s.sl i x (h i x e)
  dj := fun i j xs ys e1 e2 ne => s.dj i j xs ys (h _ _ e1) (h _ _ e2) ne
/-- the names of a block forgotten -/
def wipeE (env : En) : List Nat → En
  | [] => env
  | v :: vs => (wipeE env vs).set v none
theorem VSt.forget (s : VSt K B G0 G σ H env) (i : Nat) : VSt K B G0 G (σ.set i none) H (env.set i none) where
  bh := s.bh
  gh := s.gh
  g0 := s.g0
  gf := s.gf
  ln := by rw [List.length_set, List.length_set, s.ln]
  sl := fun j x e => by
    have q : i ≠ j := by
      rintro rfl
      have hl : i < env.length := by
        obtain ⟨z, _⟩ := List.getElem?_eq_some_iff.mp e
        rwa [List.length_set] at z
      rw [List.getElem?_set_self hl] at e; cases e
    rw [List.getElem?_set_ne q] at e
    rw [List.getElem?_set_ne q]
    exact s.sl j x e
  dj := fun j k xs ys e1 e2 ne => by
    have nn : ∀ {j : Nat} {xs : List D}, (env.set i none)[j]? = some (some (.o xs)) → i ≠ j := by
      intro j xs e
      rintro rfl
      have hl : i < env.length := by
        obtain ⟨z, _⟩ := List.getElem?_eq_some_iff.mp e
        rwa [List.length_set] at z
      rw [List.getElem?_set_self hl] at e; cases e
    have n1 := nn e1
    have n2 := nn e2
    rw [List.getElem?_set_ne n1] at e1 ⊢
    rw [List.getElem?_set_ne n2] at e2 ⊢
    exact s.dj j k xs ys e1 e2 ne
theorem VSt.wipe (s : VSt K B G0 G σ H env) : ∀ vs : List Nat, VSt K B G0 G (L2.wipe σ vs) H (wipeE env vs)
  | [] => s
  | v :: vs => (s.wipe vs).forget v
theorem wipe_comm (σ : Sg) (i : Nat) (x : Option V) : ∀ vs : List Nat, i ∈ vs → L2.wipe (σ.set i x) vs = L2.wipe σ vs
  | [], h => by simp at h
  | v :: vs, h => by
    show (L2.wipe (σ.set i x) vs).set v none = (L2.wipe σ vs).set v none
    by_cases q : i ∈ vs
    · rw [wipe_comm σ i x vs q]
    · have e : i = v := by simpa [q] using h
      subst e
      have go : ∀ (ws : List Nat), i ∉ ws → L2.wipe (σ.set i x) ws = (L2.wipe σ ws).set i x := by
        intro ws
        induction ws with
        | nil => intro _; rfl
        | cons w ws ih =>
          intro hw
          show (L2.wipe (σ.set i x) ws).set w none = ((L2.wipe σ ws).set w none).set i x
          rw [ih (fun z => hw (List.mem_cons_of_mem _ z)), List.set_comm]
          rintro rfl; exact hw List.mem_cons_self
      rw [go vs q, List.set_set]
theorem wipe_idem (σ : Sg) : ∀ vs ws : List Nat, (∀ v ∈ ws, v ∈ vs) → L2.wipe (L2.wipe σ ws) vs = L2.wipe σ vs
  | vs, [], _ => rfl
  | vs, w :: ws, h => by
    show L2.wipe ((L2.wipe σ ws).set w none) vs = _
    rw [wipe_comm _ w none vs (h w List.mem_cons_self)]
    exact wipe_idem σ vs ws fun v hv => h v (List.mem_cons_of_mem _ hv)
theorem names_set {Q : Sg → Hp → Prop} (vs0 : List Nat) : ∀ (is : List Nat) (ds : List D) (vs : List V) (σ : Sg) (env : En), is.length = ds.length → DpAll K G vs ds → VSt K B G0 G σ H env →
    (∀ σ', VSt K B G0 G σ' H (setL is ds env) → ((∀ i ∈ is, i ∈ vs0) → L2.wipe σ' vs0 = L2.wipe σ vs0) → Q σ' H) → gNames is vs σ H Q
  | [], [], _, σ, env, _, .nil, s, k => ⟨rfl, k σ s fun _ => rfl⟩
  | i :: is, d :: ds, _, σ, env, hl, .cons r t, s, k => ⟨_, _, rfl, names_set vs0 is ds _ _ _ (by simpa using hl) t (s.set r i) fun σ' s' hw => k σ' s' fun hi => by
      rw [hw fun j hj => hi j (List.mem_cons_of_mem _ hj), wipe_comm _ _ _ _ (hi i List.mem_cons_self)]⟩
  | [], _ :: _, _, _, _, hl, _, _, _ => by simp at hl
  | _ :: _, [], _, _, _, hl, _, _, _ => by simp at hl
theorem tg_set {Q : Sg → Hp → Prop} {T : Tg} {v : V} {d : D} {env' : En} (vs0 : List Nat) (s : VSt K B G0 G σ H env) (r : Dp K G v d) (e : setT T d env = some env')
    (k : ∀ σ', VSt K B G0 G σ' H env' → ((∀ i ∈ T.ix, i ∈ vs0) → L2.wipe σ' vs0 = L2.wipe σ vs0) → Q σ' H) : gT K T v σ H Q := by
  cases T with
  | n i =>
    cases e
    exact k _ (s.set r i) fun hi => wipe_comm _ _ _ _ (hi i List.mem_cons_self)
  | t is =>
    unfold setT at e
    split at e
    · rename_i h; cases h
    · rename_i is' ds h1
      cases h1
      split at e
      · rename_i hl
        cases e
        cases r with
        | tup sq al =>
          exact ⟨_, _, rfl, same_sqT s.gh sq, by rw [dpAll_length al, hl], names_set vs0 is ds _ _ _ hl al s k⟩
      · cases e
    · cases e
end
section
variable {X : Cx} {pos : Pos}
theorem tg_name (i : Nat) {x : Str} (hN : X.N.Nodup) (hi : X.N[i]? = some x) (hx : Loc X.env.scope x) (hf : X.fn x = true ∨ X.env.scope.names.lookup x = some .local := by first | exact .inl rfl | exact .inr rfl | assumption) : PG X (.Name x pos) (gT X.K (.n i)) := pg_name hN hi hx hf
theorem tgs_cons (i : Nat) {x : Str} {es : List Expr} {is : List Nat} (hN : X.N.Nodup) (h : PGs X es (gNames is)) (hi : X.N[i]? = some x := by rfl) (hx : Loc X.env.scope x := by first | exact Or.inl rfl | exact Or.inr rfl) (hf : X.fn x = true ∨ X.env.scope.names.lookup x = some .local := by first | exact .inl rfl | exact .inr rfl | assumption)
    (hs : (assignEach (.Name x pos :: es) X.env).map (·.2) = assign (.Name x pos) X.env :: (assignEach es X.env).map (·.2) := by rfl) : PGs X (.Name x pos :: es) (gNames (i :: is)) := pgs_cons (pg_name hN hi hx hf) h hs
theorem tgs_nil : PGs X [] (gNames []) := pgs_nil
theorem tg_tup {es : List Expr} {k : Nat} {is : List Nat} (hc : X.calm = true) (h : PGs X es (gNames is)) (hn : (assignEach es X.env).length = is.length := by rfl) (hst : (assignEach es X.env).findIdx? (·.1) = none := by rfl) : PG X (.Tuple es k pos) (gT X.K (.t is)) := pg_tup hc h hn hst
end

/-! ### what is walked -/
def Walks (K : PySem.W.Frag) (Ok : Hp → Prop) (G : Hp) (J : It) (ds : List D) : Prop := ∀ (i : Nat) (H : Hp), Ok H → (i < ds.length → J.go i H) ∧ (ds.length ≤ i → J.stop i H) ∧ ∀ x H', J.yld i H x H' → ∀ d, ds[i]? = some d → H' = H ∧ Dp K G x d
/-- by a loop -/
def VI (X : Cx) (tg e : Expr) (f : DL) : Prop := ∃ wi, PI X tg e wi ∧ ∀ B G0 G σ H env ds (R : It → Hp → Prop), VSt X.K B G0 G σ H env → f env = some ds →
  (∀ J G' H', Tr G H G' H' → Walks X.K (fun Z => Same B Z ∧ Same G' Z) G' J ds → R J H') → wi σ H R
/-- by a comprehension -/
def VIc (X : Cx) (tg e : Expr) (f : DL) : Prop := ∃ wi, PI X tg e wi ∧ ∀ B G0 G σ H env ds (R : It → Hp → Prop), VSt X.K B G0 G σ H env → f env = some ds →
  (∀ J G' H', Tr G H G' H' → Walks X.K (fun Z => Same H' Z) G' J ds → R J H') → wi σ H R
section
variable {X : Cx} {tg e a b c : Expr} {f fa fb fc : DE} {fl : DL} {p pos : Pos}
theorem VI.comp (h : VI X tg e fl) : VIc X tg e fl := by
  obtain ⟨wi, p, q⟩ := h
  exact ⟨wi, p, fun B G0 G σ H env ds R s ef k => q B G0 G σ H env ds R s ef fun J G' H' t w => k J G' H' t fun i Z hz => w i Z ⟨s.bh.trans (t.hh.trans hz), t.gh.trans hz⟩⟩
def asL (f : DE) : DL := fun env => match f env with
  | some (.list ds) => some ds
  | _ => none
def asT (f : DE) : DL := fun env => match f env with
  | some (.tuple ds) => some ds
  | _ => none
theorem walks_list {K : PySem.W.Frag} {Ok : Hp → Prop} {G : Hp} {l : Addr} {vs : List V} {ds : List D} (hs : ∀ Z, Ok Z → SqL K Z l vs) (al : DpAll K G vs ds) : Walks K Ok G (Itl K l) ds := by
  intro i H ok
  have e := dpAll_length al
  refine ⟨fun hi => ⟨vs, vs[i]'(by omega), hs H ok, List.getElem?_eq_getElem _⟩, fun hi => ⟨vs, hs H ok, by omega⟩, fun x H' ⟨h1, h2⟩ d hd => ⟨h1, ?_⟩⟩
  obtain ⟨v, e1, r⟩ := dpAll_get al hd
  have := h2 vs (hs H ok)
  rw [e1] at this
  cases this
  exact r
theorem walks_tup {K : PySem.W.Frag} {Ok : Hp → Prop} {G : Hp} {l : Addr} {vs : List V} {ds : List D} (hs : ∀ Z, Ok Z → SqT K Z l vs) (al : DpAll K G vs ds) : Walks K Ok G (Itt K l) ds := by
  intro i H ok
  have e := dpAll_length al
  refine ⟨fun hi => ⟨vs, vs[i]'(by omega), hs H ok, List.getElem?_eq_getElem _⟩, fun hi => ⟨vs, hs H ok, by omega⟩, fun x H' ⟨h1, h2⟩ d hd => ⟨h1, ?_⟩⟩
  obtain ⟨v, e1, r⟩ := dpAll_get al hd
  have := h2 vs (hs H ok)
  rw [e1] at this
  cases this
  exact r
theorem vi_list (h : VE X e f) : VI X tg e (asL f) := by
  obtain ⟨t, p, q⟩ := h
  refine ⟨_, pi_list p, fun B G0 G σ H env ds R s ef k => ?_⟩
  unfold asL at ef
  split at ef
  · cases ef
    rename_i e1
    refine q B G0 G σ H env _ _ s e1 fun v G1 H1 t1 r1 => ?_
    cases r1 with
    | lst sq al => exact ⟨_, rfl, ⟨_, t1.gh.seq sq⟩, k _ G1 H1 t1 (walks_list (fun Z hz => hz.2.seq sq) al)⟩
  · cases ef
theorem vi_tup (h : VE X e f) : VI X tg e (asT f) := by
  obtain ⟨t, p, q⟩ := h
  refine ⟨_, pi_tup p, fun B G0 G σ H env ds R s ef k => ?_⟩
  unfold asT at ef
  split at ef
  · cases ef
    rename_i e1
    refine q B G0 G σ H env _ _ s e1 fun v G1 H1 t1 r1 => ?_
    cases r1 with
    | tup sq al => exact ⟨_, rfl, ⟨_, same_sqT t1.gh sq⟩, k _ G1 H1 t1 (walks_tup (fun Z hz => same_sqT hz.2 sq) al)⟩
  · cases ef
/-- a name whose list is lent or settled -/
def rdS (i : Nat) : DL := fun env => match env[i]? with
  | some (some (.v (.list ds))) => some ds
  | some (some (.b (.list ds))) => some ds
  | _ => none
theorem vi_var (i : Nat) {x : Str} {pos : Pos} (hN : X.N[i]? = some x := by rfl) (hv : Vis X.env.scope x := by first | exact Or.inl rfl | exact Or.inr (Or.inl rfl) | exact Or.inr (Or.inr rfl)) (hd : (x == ("__debug__" : Str)) = false := by decide) (hcd : (x == ("__classdict__" : Str)) = false := by decide) : VI X tg (.Name x pos) (rdS i) := by
  refine ⟨_, pi_list (pe_var hN hv hd hcd), fun B G0 G σ H env ds R s ef k => ?_⟩
  unfold rdS at ef
  split at ef <;> cases ef <;> rename_i z <;> obtain ⟨v, e1, r⟩ := s.sl _ _ z
  · cases r with
    | lst sq al => exact ⟨_, e1, _, rfl, ⟨_, s.gh.seq sq⟩, k _ G H (Tr.refl s.gh) (walks_list (fun Z hz => hz.2.seq sq) al)⟩
  · obtain ⟨l, vs, e2, sq, al⟩ := r
    exact ⟨_, e1, l, e2, ⟨_, s.bh.seq sq⟩, k _ G H (Tr.refl s.gh) (walks_list (fun Z hz => hz.1.seq sq) al)⟩
theorem vic_list (h : VO X e f) : VIc X tg e (asL f) := by
  obtain ⟨t, p, q⟩ := h
  refine ⟨_, pi_list p, fun B G0 G σ H env ds R s ef k => ?_⟩
  unfold asL at ef
  split at ef
  · cases ef
    rename_i e1
    refine q B G0 G σ H env _ _ s e1 fun v G1 H1 t1 r1 => ?_
    obtain ⟨l, vs, e4, sq, al⟩ := op_seq t1.gh r1
    exact ⟨l, e4, ⟨_, sq⟩, k _ G1 H1 t1 (walks_list (fun Z hz => hz.seq sq) al)⟩
  · cases ef
theorem vic_tup (h : VO X e f) : VIc X tg e (asT f) := by
  obtain ⟨t, p, q⟩ := h
  refine ⟨_, pi_tup p, fun B G0 G σ H env ds R s ef k => ?_⟩
  unfold asT at ef
  split at ef
  · cases ef
    rename_i e1
    refine q B G0 G σ H env _ _ s e1 fun v G1 H1 t1 r1 => ?_
    obtain ⟨l, vs, e4, sq, al⟩ := op_tup t1.gh r1
    exact ⟨l, e4, ⟨_, sq⟩, k _ G1 H1 t1 (walks_tup (fun Z hz => same_sqT hz sq) al)⟩
  · cases ef
/-! ranges -/
def cR2 (i j : Int) : Bool := decide (i.natAbs < 4611686018427387904) && decide (j.natAbs < 4611686018427387904)
theorem cR2_ok {i j : Int} (h : cR2 i j = true) : -(2 ^ 62) ≤ i ∧ i < 2 ^ 62 ∧ -(2 ^ 62) ≤ j ∧ j < 2 ^ 62 := by
  simp only [cR2, Bool.and_eq_true, decide_eq_true_eq] at h
  obtain ⟨h1, h2⟩ := h
  exact ⟨by omega, by omega, by omega, by omega⟩
def kR1 : D → Option (List D)
  | .int j => if cR2 0 j = true then some (rgD 0 j) else none
  | _ => none
def kR2 : D → D → Option (List D)
  | .int i, .int j => if cR2 i j = true then some (rgD i j) else none
  | _, _ => none
theorem rgD_len (a b : Int) : (rgD a b).length = (b - a).toNat := by unfold rgD; rw [List.length_map, List.length_range]
theorem rgD_get {a b : Int} {i : Nat} {d : D} (h : (rgD a b)[i]? = some d) : d = .int (a + (i : Nat)) := by
  unfold rgD at h
  rw [List.getElem?_map] at h
  cases e : (List.range (b - a).toNat)[i]? with
  | none => rw [e] at h; cases h
  | some j =>
    rw [e] at h
    cases h
    have := List.getElem?_eq_some_iff.mp e
    obtain ⟨h1, h2⟩ := this
    rw [List.getElem_range] at h2
    rw [h2]
theorem walks_rng {K : PySem.W.Frag} {Ok : Hp → Prop} {G : Hp} (lo hi : Int) : Walks K Ok G (Itr lo (hi - lo).toNat) (rgD lo hi) := by
  intro i H ok
  rw [rgD_len]
  refine ⟨fun hi => hi, fun hi => hi, fun x H' ⟨h1, h2⟩ d hd => ⟨h1, ?_⟩⟩
  rw [rgD_get hd, h2]
  exact .int _
theorem vi_rng1 (hg : Gl X "range") (hm : X.mg "range" = none) (ha : VO X a fa) (hs : starEach [a] X.env = [(false, eval a X.env)] := by rfl) (hs2 : starEach [a] X.env = (false, eval a X.env) :: starEach [] X.env := by rfl) : VI X tg (.Call (.Name "range" p) [a] [] pos) (d1 kR1 fa) := by
  obtain ⟨t, pa, q⟩ := ha
  refine ⟨_, pi_range1 hg hm (pa_cons pa pa_nil hs2) hs, fun B G0 G σ H env ds R s ef k => ?_⟩
  obtain ⟨x, e1, e3⟩ := d1_some ef
  refine q B G0 G σ H env x _ s e1 fun v G1 H1 t1 r1 => ?_
  unfold kR1 at e3
  split at e3
  · split at e3
    · rename_i hc
      cases e3; cases r1
      have h := cR2_ok hc
      refine ⟨_, rfl, h.2.2.1, h.2.2.2, k _ G1 H1 t1 ?_⟩
      have w := walks_rng (K := X.K) (Ok := fun Z => Same B Z ∧ Same G1 Z) (G := G1) 0 (by assumption)
      rwa [Int.sub_zero] at w
    · cases e3
  · cases e3
theorem vi_rng2 (hg : Gl X "range") (hm : X.mg "range" = none) (ha : VO X a fa) (hb : VO X b fb) (hs : starEach [a, b] X.env = [(false, eval a X.env), (false, eval b X.env)] := by rfl) (hs2 : starEach [b] X.env = [(false, eval b X.env)] := by rfl)
    (hs3 : starEach [a, b] X.env = (false, eval a X.env) :: starEach [b] X.env := by rfl) (hs4 : starEach [b] X.env = (false, eval b X.env) :: starEach [] X.env := by rfl) : VI X tg (.Call (.Name "range" p) [a, b] [] pos) (d2 kR2 fa fb) := by
  obtain ⟨ta, pa, qa⟩ := ha
  obtain ⟨tb, pb, qb⟩ := hb
  refine ⟨_, pi_range2 hg hm (pa_cons pa (pa_cons pb pa_nil hs4) hs3) hs hs2, fun B G0 G σ H env ds R s ef k => ?_⟩
  obtain ⟨x, y, e1, e2, e3⟩ := d2_some ef
  refine two (R := fun v w H2 => ∃ i j : Int, [v, w] = [V.int i, V.int j] ∧ (-(2 ^ 62) ≤ i ∧ i < 2 ^ 62 ∧ -(2 ^ 62) ≤ j ∧ j < 2 ^ 62) ∧ R (Itr i (j - i).toNat) H2) qa qb s e1 e2 fun v w G1 H1 t r1 r2 => ?_
  unfold kR2 at e3
  split at e3
  · split at e3
    · rename_i hc
      cases e3; cases r1; cases r2
      exact ⟨_, _, rfl, cR2_ok hc, k _ G1 H1 t (walks_rng _ _)⟩
    · cases e3
  · cases e3
/-- range(a, b, c): a written step -/
def sgD (lo c : Int) (n : Nat) : List D := (List.range n).map fun (i : Nat) => PyData.int (lo + (i : Nat) * c)
theorem sgD_len (a c : Int) (n : Nat) : (sgD a c n).length = n := by unfold sgD; rw [List.length_map, List.length_range]
theorem sgD_get {a c : Int} {n i : Nat} {d : D} (h : (sgD a c n)[i]? = some d) : d = .int (a + (i : Nat) * c) := by
  unfold sgD at h
  rw [List.getElem?_map] at h
  cases e : (List.range n)[i]? with
  | none => rw [e] at h; cases h
  | some j =>
    rw [e] at h
    cases h
    obtain ⟨h1, h2⟩ := List.getElem?_eq_some_iff.mp e
    rw [List.getElem_range] at h2
    rw [h2]
theorem walks_stp {K : PySem.W.Frag} {Ok : Hp → Prop} {G : Hp} (lo c : Int) (n : Nat) : Walks K Ok G (Itc lo c n) (sgD lo c n) := by
  intro i H ok
  rw [sgD_len]
  refine ⟨fun hi => hi, fun hi => hi, fun x H' ⟨h1, h2⟩ d hd => ⟨h1, ?_⟩⟩
  rw [sgD_get hd, h2]
  exact .int _
def d3 {α : Type} (k : D → D → D → Option α) (fa fb fc : DE) : En → Option α := fun env => match fa env with
  | some x => (match fb env with
    | some y => (match fc env with
      | some z => k x y z
      | none => none)
    | none => none)
  | none => none
theorem d3_some {α : Type} {k : D → D → D → Option α} {fa fb fc : DE} {env : En} {z : α} (h : d3 k fa fb fc env = some z) : ∃ x y w, fa env = some x ∧ fb env = some y ∧ fc env = some w ∧ k x y w = some z := by
  unfold d3 at h
  cases e1 : fa env with
  | none => rw [e1] at h; cases h
  | some x =>
    cases e2 : fb env with
    | none => rw [e1, e2] at h; cases h
    | some y =>
      cases e3 : fc env with
      | none => rw [e1, e2, e3] at h; cases h
      | some w => rw [e1, e2, e3] at h; exact ⟨x, y, w, rfl, rfl, rfl, h⟩
/-- how many turns; steps up or down by c -/
def turns (i j c : Int) : Nat := if 0 < c then ((j - i + c - 1) / c).toNat else if c < 0 then ((i - j - c - 1) / (-c)).toNat else 0
def cR3 (i j c : Int) : Bool := decide (c ≠ 0) && decide (c.natAbs < 1073741824) && Builtin.Range.small i j c && decide (Builtin.Range.rangeSize i j c = (turns i j c : Nat))
def kR3 : D → D → D → Option (List D)
  | .int i, .int j, .int c => if cR3 i j c = true then some (sgD i c (turns i j c)) else none
  | _, _, _ => none
theorem cR3_ok {i j c : Int} (h : cR3 i j c = true) : RgC i j c (turns i j c) := by
  simp only [cR3, Bool.and_eq_true, decide_eq_true_eq] at h
  obtain ⟨⟨⟨h1, h2⟩, h3⟩, h4⟩ := h
  exact ⟨h1, h2, h3, h4⟩
theorem vi_rng3 (hg : Gl X "range") (hm : X.mg "range" = none) (ha : VO X a fa) (hb : VO X b fb) (hc : VO X c fc) (hs : starEach [a, b, c] X.env = (false, eval a X.env) :: starEach [b, c] X.env := by rfl) (hs2 : starEach [b, c] X.env = (false, eval b X.env) :: starEach [c] X.env := by rfl)
    (hs3 : starEach [c] X.env = (false, eval c X.env) :: starEach [] X.env := by rfl) (hpl : (backTo pos (starEach [b, c] X.env)).any (·.1) = false := by rfl) : VI X tg (.Call (.Name "range" p) [a, b, c] [] pos) (d3 kR3 fa fb fc) := by
  obtain ⟨ta, pa, qa⟩ := ha
  obtain ⟨tb, pb, qb⟩ := hb
  obtain ⟨tc, pc, qc⟩ := hc
  refine ⟨_, pi_range3 hg hm (pa_cons pa (pa_cons pb (pa_cons pc pa_nil hs3) hs2) hs) hs hpl, fun B G0 G σ H env ds R s ef k => ?_⟩
  obtain ⟨x, y, z, e1, e2, e3, e4⟩ := d3_some ef
  refine qa B G0 G σ H env x _ s e1 fun v G1 H1 t1 r1 => ?_
  refine qb B G0 G1 σ H1 env y _ (s.tr t1) e2 fun w G2 H2 t2 r2 => ?_
  refine qc B G0 G2 σ H2 env z _ ((s.tr t1).tr t2) e3 fun u G3 H3 t3 r3 => ?_
  unfold kR3 at e4
  split at e4
  · split at e4
    · rename_i hc
      cases e4; cases r1; cases r2; cases r3
      exact ⟨_, _, _, _, rfl, cR3_ok hc, k _ G3 H3 ((t1.trans t2).trans t3) (walks_stp _ _ _)⟩
    · cases e4
  · cases e4
end
end VL

set_option Elab.async false
set_option linter.all false
set_option maxRecDepth 100000
set_option maxHeartbeats 4000000
namespace VL
open PySem PySem.Spec PyProof.Rows L2

/-! ### comprehensions -/
def goLc (T : Tg) (tt : DT) (fe : DE) (env : En) : List D → Option (List D)
  | [] => some []
  | d :: ds => (match setT T d env with
    | none => none
    | some e1 => (match tt e1 with
      | none => none
      | some false => goLc T tt fe env ds
      | some true => (match fe e1 with
        | none => none
        | some y => (match goLc T tt fe env ds with
          | none => none
          | some r => some (y :: r)))))
def dLc (it : DL) (T : Tg) (tt : DT) (fe : DE) (vs : List Nat) : DL := fun env => match it env with
  | none => none
  | some ds => if ds.length ≤ sizeD then goLc T tt fe (wipeE env vs) ds else none
def dYes : DT := fun _ => some true
def VTs (X : Cx) (ifs : List Expr) (f : DT) : Prop := PTs X ifs (tT X.K f)
theorem vts_nil {X : Cx} : VTs X [] dYes := ⟨fun pins s σ H Q I h => by
  obtain ⟨B, G0, G, env, d, st, ef, k⟩ := h
  cases ef
  exact pts_nil.run pins s σ H Q I (k G H (Tr.refl st.gh))⟩
theorem vts_one {X : Cx} {c : Expr} {f : DT} (h : VT X c f) : VTs X [c] f := pts_one h.canon
theorem goLc_len {T : Tg} {tt : DT} {fe : DE} {env : En} : ∀ {ds r : List D}, goLc T tt fe env ds = some r → r.length ≤ ds.length
  | [], r, h => by cases h; exact Nat.le_refl _
  | d :: ds, r, h => by
    unfold goLc at h
    split at h
    · cases h
    · split at h
      · cases h
      · have := goLc_len h
        exact Nat.le_trans this (Nat.le_succ _)
      · split at h
        · cases h
        · split at h
          · cases h
          · rename_i e
            cases h
            have := goLc_len e
            exact Nat.succ_le_succ this
section
variable {K : PySem.W.Frag} {G H G' H' : Hp}
theorem Tr.updD {p : Addr} {o : HO} (t : Tr G H G' H') (hp : H p = none) (gp : G' p = none) : Tr G H G' (upd H' p o) := by
  refine ⟨t.gg, fun b u e => ?_, fun b u e => ?_, t.gf⟩
  · rw [upd_ne (ne_of_none e hp)]; exact t.hh _ _ e
  · rw [upd_ne (ne_of_none e gp)]; exact t.gh _ _ e
end
/-- the work of a comprehension, whatever uses its list -/
theorem lc_run {K : PySem.W.Frag} {J : It} {T : Tg} {tt : DT} {fe : DE} {vs : List Nat} {B G0 G1 H1 : Hp} {σ : Sg} {env : En} {ds xs : List D} {Q : VK}
    (hT : ∀ i ∈ T.ix, i ∈ vs) (s : VSt K B G0 G1 σ H1 env) (w : Walks K (fun Z => Same H1 Z) G1 J ds) (hz : ds.length ≤ sizeD) (e : goLc T tt fe (wipeE env vs) ds = some xs)
    (k : ∀ v G' H', Tr G1 H1 G' H' → Own K H1 G' H' v xs → Q v H') : ∀ D, H1 D = none → ∃ W : Nat → Nat → Hp → Prop, (∃ m, W 0 m (upd H1 D (.lst []))) ∧ ∀ i m H, W i m H →
  (J.stop i H ∧ Q (.ref D) H) ∨ (J.go i H ∧ ∃ Nx : Hp → Prop, (∀ H', Nx H' → ∃ m', m' < m ∧ W (i + 1) m' H') ∧ ∀ x H', J.yld i H x H' → gT K T x (L2.wipe σ vs) H' fun σ2 H2 => L2.wipe σ2 vs = L2.wipe σ vs ∧ tT K tt σ2 H2 fun b H3 =>
    if b = true then tE K fe σ2 H3 fun y H4 => ∃ acc, H4 D = some (.lst acc) ∧ acc.length < sizeLine ∧ Nx (upd H4 D (.lst (acc ++ [y]))) else Nx H3) := by
  intro D hD
  have gD : G1 D = none := s.gh.free hD
  refine ⟨fun i m H => ∃ (G2 : Hp) (av : List V) (ad r : List VL.D), Tr G1 H1 G2 H ∧ H D = some (.lst av) ∧ G2 D = none ∧ DpAll K G2 av ad ∧ goLc T tt fe (wipeE env vs) (ds.drop i) = some r ∧ xs = ad ++ r ∧ ad.length ≤ i ∧ i ≤ ds.length ∧ m = ds.length - i,
    ⟨_, G1, [], [], xs, Tr.tmp s.gh hD, upd_same, gD, .nil, e, rfl, Nat.le_refl _, Nat.zero_le _, rfl⟩, ?_⟩
  rintro i m H ⟨G2, av, ad, r, t, hav, g2, al, er, ex, hl, hi, hm⟩
  obtain ⟨w1, w2, w3⟩ := w i H t.hh
  by_cases q : i < ds.length
  · refine .inr ⟨w1 q, fun H' => ∃ m', m' < m ∧ ∃ (G2 : Hp) (av : List V) (ad r : List VL.D), Tr G1 H1 G2 H' ∧ H' D = some (.lst av) ∧ G2 D = none ∧ DpAll K G2 av ad ∧ goLc T tt fe (wipeE env vs) (ds.drop (i + 1)) = some r ∧ xs = ad ++ r ∧ ad.length ≤ i + 1 ∧ i + 1 ≤ ds.length ∧ m' = ds.length - (i + 1),
      fun H' ⟨m', h1, h2⟩ => ⟨m', h1, h2⟩, fun x H' hy => ?_⟩
    obtain ⟨rfl, dx⟩ := w3 x H' hy _ (List.getElem?_eq_getElem q)
    rw [List.drop_eq_getElem_cons q] at er
    generalize hd : ds[i] = d at er dx
    unfold goLc at er
    split at er
    · cases er
    · rename_i e1 es
      have st : VSt K B G0 G2 (L2.wipe σ vs) H' (wipeE env vs) := (s.tr t).wipe vs
      refine tg_set vs st (dp_mono t.gg _ dx) es fun σ2 s2 hw => ⟨?_, ?_⟩
      · rw [hw hT, wipe_idem σ vs vs fun v hv => hv]
      · split at er
        · cases er
        · rename_i et
          refine ⟨B, G0, G2, e1, false, s2, et, fun G3 H3 t3 => iteF ⟨_, by omega, G3, av, ad, r, t.trans t3, t3.hh _ _ hav, t3.bf hav g2, dpAll_mono t3.gg _ al, er, ex, by omega, q, rfl⟩⟩
        · rename_i et
          split at er
          · cases er
          · rename_i y ey
            split at er
            · cases er
            · rename_i r' er'
              cases er
              refine ⟨B, G0, G2, e1, true, s2, et, fun G3 H3 t3 => iteT ⟨B, G0, G3, e1, y, s2.tr t3, ey, fun v G4 H4 t4 r4 => ?_⟩⟩
              have tt' := t3.trans t4
              have h4 : H4 D = some (.lst av) := tt'.hh _ _ hav
              have g4 : G4 D = none := tt'.bf hav g2
              refine ⟨av, h4, ?_, _, by omega, G4, av ++ [v], ad ++ [y], r', (t.trans tt').updD hD g4, upd_same, g4, dpAll_append (dpAll_mono tt'.gg _ al) (.cons r4 .nil), er', by rw [ex, List.append_assoc]; rfl, by rw [List.length_append]; show ad.length + 1 ≤ i + 1; omega, q, rfl⟩
              rw [dpAll_length al]
              have : sizeD = sizeLine := rfl
              omega
  · have hi' : i = ds.length := by omega
    refine .inl ⟨w2 (by omega), ?_⟩
    rw [List.drop_eq_nil_of_le (by omega)] at er
    cases er
    rw [List.append_nil] at ex
    subst ex
    exact k (.ref D) G2 H t ⟨D, av, rfl, hav, g2, hD, al⟩
section
variable {X : Cx} {elt tg iter : Expr} {ifs : List Expr} {scope : Scope} {own : List (Str × Nat)} {pos : Pos} {it : DL} {T : Tg} {tt : DT} {fe : DE}
theorem vf_lc (own : List (Str × Nat)) (T : Tg) (hc : X.calm = true) (hN : X.N.Nodup) (hi : VIc X tg iter it) (ok : BlkOk X.N X.env.scope scope own)
    (hg : ∀ (s : Shared) (H : Hp) (C : Addr) (cl : List (Str × Addr)) (fp : List Addr), PG (X.blk s H scope (compEnvC scope cl C X.env) fp) tg (gT X.K T))
    (ht : ∀ (s : Shared) (H : Hp) (C : Addr) (cl : List (Str × Addr)) (fp : List Addr), VTs (X.blk s H scope (compEnvC scope cl C X.env) fp) ifs tt)
    (he : ∀ (s : Shared) (H : Hp) (C : Addr) (cl : List (Str × Addr)) (fp : List Addr), VE (X.blk s H scope (compEnvC scope cl C X.env) fp) elt fe)
    (hT : T.ix.all (fun i => (own.map (·.2)).contains i) = true := by rfl) (hs : ∀ x, foldedSetIterable iter X.env x = pure x := by intro _; rfl) : VF X (.ListComp elt [⟨tg, iter, ifs, 0⟩] scope pos) (dLc it T tt fe (own.map (·.2))) := by
  obtain ⟨wi, pw, qw⟩ := hi
  refine ⟨_, pe_lc (g := gT X.K T) (tt := tT X.K tt) (te := tE X.K fe) hc hN pw ok hg ht (fun s H C cl fp => (he s H C cl fp).canon) hs, fun B G0 G σ H env xs Q s ef k => ?_⟩
  unfold dLc at ef
  split at ef
  · cases ef
  · rename_i ds e1
    split at ef
    · rename_i hz
      refine qw B G0 G σ H env ds _ s e1 fun J G1 H1 t1 w => ?_
      refine lc_run (fun i hi => ?_) (s.tr t1) w hz ef fun v G2 H2 t2 o => k v G2 H2 (t1.trans t2) ?_
      · have := List.all_eq_true.mp hT i hi
        simpa using this
      · obtain ⟨l, vs, h1, h2, h3, h4, h5⟩ := o
        exact ⟨l, vs, h1, h2, h3, t1.hh.free h4, h5⟩
    · cases ef
end

/-! ### calls of the text's own defs -/
/-- what a def hands back: a new list (true), or what may be handed on -/
def Res (K : PySem.W.Frag) (m : Bool) (H G' H' : Hp) (v : V) (d : D) : Prop :=
  if m = true then ∃ xs, d = .list xs ∧ Own K H G' H' v xs else Dp K G' v d
def spV (K : PySem.W.Frag) (m : Bool) (ms : List Bool) (M : List D → Option D) : Sp := fun vs H Q _ => ∃ G ds d, Same G H ∧ ArgsOk K G H ms vs ds ∧ M ds = some d ∧
  ∀ v G' H', Tr G H G' H' → Res K m H G' H' v d → Q v H'
/-- a def that a body may call by its name -/
structure Cal (P : Program) (w : World) (K : PySem.W.Frag) (mg : Str → Option Value) (base : Heap) (x : Str) (ps : List Str) (k : Nat) (sp : Sp) : Prop where
  ex : ∃ f fd, FnOk P w K mg base CX0 k f fd ps sp ∧ mg x = some (.ref f) ∧ PySem.W.keepIn K (.ref f) = true ∧ Binds K fd ps []
def kCall (M : List D → Option D) (f : DL) : DE := fun env => match f env with
  | some ds => M ds
  | none => none
section
variable {X : Cx} {k j : Nat} {x : Str} {ps : List Str} {p pos : Pos} {e : Expr} {es : List Expr} {ms : List Bool} {M : List D → Option D} {f : DL}
theorem ve_call (C : Cal X.prog X.w X.K X.mg X.base x ps k (spV X.K false ms M)) (hr : Room k X.A) (hg : Gl X x) (ha : VA X (e :: es) ms f) (hdb : (x == ("__debug__" : Str)) = false := by decide)
    (he : starEach (e :: es) X.env = (false, eval e X.env) :: starEach es X.env := by rfl) (hpl : (backTo pos (starEach es X.env)).any (·.1) = false := by rfl) : VE X (.Call (.Name x p) (e :: es) [] pos) (kCall M f) := by
  obtain ⟨fa, fd, F, hm, hk, hb⟩ := C.ex
  obtain ⟨t, pa, q⟩ := ha
  refine ⟨_, pe_call F hr hg hm hk hb .nil pass0 pa hdb he hpl, fun B G0 G σ H env d Q s ef k => ?_⟩
  unfold kCall at ef
  split at ef
  · rename_i ds e1
    refine q B G0 G σ H env ds _ s e1 fun vs G1 H1 t1 r1 => ?_
    refine ⟨G1, ds, d, t1.gh, by rw [List.append_nil]; exact r1, ef, fun v G2 H2 t2 r2 => k v G2 H2 (t1.trans t2) ?_⟩
    unfold Res at r2
    rwa [if_neg Bool.false_ne_true] at r2
  · cases ef
theorem vf_call (C : Cal X.prog X.w X.K X.mg X.base x ps k (spV X.K true ms M)) (hr : Room k X.A) (hg : Gl X x) (ha : VA X (e :: es) ms f) (hdb : (x == ("__debug__" : Str)) = false := by decide)
    (he : starEach (e :: es) X.env = (false, eval e X.env) :: starEach es X.env := by rfl) (hpl : (backTo pos (starEach es X.env)).any (·.1) = false := by rfl) : VF X (.Call (.Name x p) (e :: es) [] pos) (asL (kCall M f)) := by
  obtain ⟨fa, fd, F, hm, hk, hb⟩ := C.ex
  obtain ⟨t, pa, q⟩ := ha
  refine ⟨_, pe_call F hr hg hm hk hb .nil pass0 pa hdb he hpl, fun B G0 G σ H env xs Q s ef k => ?_⟩
  unfold asL at ef
  split at ef
  · rename_i ys e0
    cases ef
    unfold kCall at e0
    split at e0
    · rename_i ds e1
      refine q B G0 G σ H env ds _ s e1 fun vs G1 H1 t1 r1 => ?_
      refine ⟨G1, ds, _, t1.gh, by rw [List.append_nil]; exact r1, e0, fun v G2 H2 t2 r2 => k v G2 H2 (t1.trans t2) ?_⟩
      unfold Res at r2
      rw [if_pos rfl] at r2
      obtain ⟨zs, ez, l, vs2, h1, h2, h3, h4, h5⟩ := r2
      cases ez
      exact ⟨l, vs2, h1, h2, h3, t1.hh.free h4, h5⟩
    · cases e0
  · cases ef
theorem ve_call0 (C : Cal X.prog X.w X.K X.mg X.base x ps k (spV X.K false [] M)) (hr : Room k X.A) (hg : Gl X x) (hdb : (x == ("__debug__" : Str)) = false := by decide) : VE X (.Call (.Name x p) [] [] pos) (kCall M aNil) := by
  obtain ⟨fa, fd, F, hm, hk, hb⟩ := C.ex
  refine ⟨_, pe_call0 F hr hg hm hk hb .nil pass0 hdb, fun B G0 G σ H env d Q s ef k => ?_⟩
  refine ⟨G, [], d, s.gh, .nil, ef, fun v G2 H2 t2 r2 => k v G2 H2 t2 ?_⟩
  unfold Res at r2
  rwa [if_neg Bool.false_ne_true] at r2
theorem vf_call0 (C : Cal X.prog X.w X.K X.mg X.base x ps k (spV X.K true [] M)) (hr : Room k X.A) (hg : Gl X x) (hdb : (x == ("__debug__" : Str)) = false := by decide) : VF X (.Call (.Name x p) [] [] pos) (asL (kCall M aNil)) := by
  obtain ⟨fa, fd, F, hm, hk, hb⟩ := C.ex
  refine ⟨_, pe_call0 F hr hg hm hk hb .nil pass0 hdb, fun B G0 G σ H env xs Q s ef k => ?_⟩
  unfold asL at ef
  split at ef
  · rename_i ys e0
    cases ef
    refine ⟨G, [], _, s.gh, .nil, e0, fun v G2 H2 t2 r2 => k v G2 H2 t2 ?_⟩
    unfold Res at r2
    rw [if_pos rfl] at r2
    obtain ⟨zs, ez, o⟩ := r2
    cases ez
    exact o
  · cases ef
end

/-! ### statements -/
inductive Out where
  | nx (e : En) | rt (d : D) | bk (e : En) | ct (e : En)
abbrev DS := En → Option Out
def Fin (K : PySem.W.Frag) (m : Bool) (B G0 : Hp) (D : Ends) : Out → Prop
  | .nx env' => ∀ G' σ' H', VSt K B G0 G' σ' H' env' → D.nx σ' H'
  | .rt d => ∀ v G' H', Tr G0 B G' H' → Res K m B G' H' v d → D.rt v H'
  | .bk env' => ∀ G' σ' H', VSt K B G0 G' σ' H' env' → D.bk σ' H'
  | .ct env' => ∀ G' σ' H', VSt K B G0 G' σ' H' env' → D.ct σ' H'
def VS (X : Cx) (m : Bool) (st : Stmt) (f : DS) : Prop := ∃ t, PS X st t ∧ ∀ B G0 G σ H env o (D : Ends), VSt X.K B G0 G σ H env → f env = some o → Fin X.K m B G0 D o → t D σ H
def VSs (X : Cx) (m : Bool) (sts : List Stmt) (f : DS) : Prop := ∃ t, PSs X sts t ∧ ∀ B G0 G σ H env o (D : Ends), VSt X.K B G0 G σ H env → f env = some o → Fin X.K m B G0 D o → t D σ H
def dNx : DS := fun env => some (.nx env)
def dSeq (f g : DS) : DS := fun env => match f env with
  | some (.nx e) => g e
  | r => r
section
variable {X : Cx} {m : Bool} {st : Stmt} {rest : List Stmt} {f g h : DS} {pos : Pos} {e c : Expr} {fe : DE} {fl : DL} {ft : DT}
theorem vss_nil : VSs X m [] dNx := ⟨_, pss_nil, fun B G0 G σ H env o D s ef k => by cases ef; exact k G σ H s⟩
theorem vss_one (h1 : VS X m st f) : VSs X m [st] f := by
  obtain ⟨t, p, q⟩ := h1
  exact ⟨_, pss_one p, q⟩
theorem vss_cons (h1 : VS X m st f) (h2 : VSs X m rest g) : VSs X m (st :: rest) (dSeq f g) := by
  obtain ⟨t, p, q⟩ := h1
  obtain ⟨t', p', q'⟩ := h2
  refine ⟨_, pss_cons p p', fun B G0 G σ H env o D s ef k => ?_⟩
  unfold dSeq at ef
  split at ef
  · rename_i e1 eq1
    exact q B G0 G σ H env _ _ s eq1 fun G' σ' H' s' => q' B G0 G' σ' H' e1 o D s' ef k
  · rename_i hn
    refine q B G0 G σ H env o _ s ef ?_
    cases o with
    | nx e1 => exact absurd ef (hn e1)
    | rt d => exact k
    | bk e1 => exact k
    | ct e1 => exact k
/-- what is known is turned, nothing is done -/
def ghost (w : En → En) (f : DS) : DS := fun env => f (w env)
theorem vss_ghost (w : En → En) (hw : ∀ K B G0 G σ H env, VSt K B G0 G σ H env → ∃ G', VSt K B G0 G' σ H (w env)) (h1 : VSs X m rest f) : VSs X m rest (ghost w f) := by
  obtain ⟨t, p, q⟩ := h1
  refine ⟨t, p, fun B G0 G σ H env o D s ef k => ?_⟩
  obtain ⟨G', s'⟩ := hw X.K B G0 G σ H env s
  exact q B G0 G' σ H _ o D s' ef k
/-- names that are no longer asked -/
def kill (is : List Nat) (env : En) : En := is.foldl (fun e i => e.set i none) env
theorem kill_ok (is : List Nat) : ∀ K B G0 G σ H env, VSt K B G0 G σ H env → ∃ G', VSt K B G0 G' σ H (kill is env) := by
  intro K B G0 G σ H env s
  refine ⟨G, ?_⟩
  unfold kill
  induction is generalizing env with
  | nil => exact s
  | cons i is ih =>
    rw [List.foldl_cons]
    refine ih _ (s.less (by rw [List.length_set]) fun j x e => ?_)
    by_cases q : i = j
    · subst q
      have hl : i < env.length := by
        obtain ⟨z, _⟩ := List.getElem?_eq_some_iff.mp e
        rwa [List.length_set] at z
      rw [List.getElem?_set_self hl] at e; cases e
    · rwa [List.getElem?_set_ne q] at e
/-- a list that is settled -/
def fz (i : Nat) (env : En) : En := match env[i]? with
  | some (some (.o xs)) => env.set i (some (.v (.list xs)))
  | _ => env
theorem fz_ok (i : Nat) : ∀ K B G0 G σ H env, VSt K B G0 G σ H env → ∃ G', VSt K B G0 G' σ H (fz i env) := by
  intro K B G0 G σ H env s
  unfold fz
  split
  · rename_i us e1
    obtain ⟨v, e2, l, vs, e3, hl, gl, bl, al⟩ := s.sl _ _ e1
    subst e3
    have hn : Same G (upd G l (.lst vs)) := upd_same_of _ gl
    have hlt : i < env.length := (List.getElem?_eq_some_iff.mp e1).1
    refine ⟨upd G l (.lst vs), s.bh, fun b u q => ?_, s.g0.trans hn, fun b u q => ?_, by rw [List.length_set]; exact s.ln, fun j x q => ?_, fun j k xs ys q1 q2 ne => ?_⟩
    · by_cases z : b = l
      · subst z; rw [upd_same] at q; rw [hl]; exact q
      · rw [upd_ne z] at q; exact s.gh _ _ q
    · by_cases z : b = l
      · subst z; exact .inr bl
      · rw [upd_ne z] at q; exact s.gf _ _ q
    · by_cases z : i = j
      · subst z
        rw [List.getElem?_set_self hlt] at q
        cases q
        exact ⟨_, e2, .lst (.inl (.inl upd_same)) (dpAll_mono hn _ al)⟩
      · rw [List.getElem?_set_ne z] at q
        obtain ⟨v, h1, h2⟩ := s.sl _ _ q
        refine ⟨v, h1, ?_⟩
        cases x with
        | v d => exact dp_mono hn _ h2
        | b d => exact Op.mono hn (Same.refl _) h2
        | o ys =>
          obtain ⟨l2, vs2, h3, h4, h5, h6, h7⟩ := h2
          refine ⟨l2, vs2, h3, h4, ?_, h6, dpAll_mono hn _ h7⟩
          rw [upd_ne]
          · exact h5
          · rintro rfl
            exact s.dj i j us ys e1 q z (by rw [e2, h1, h3])
    · have nn : ∀ {j : Nat} {zs : List D}, (List.set env i (some (Sl.v (.list us))))[j]? = some (some (.o zs)) → i ≠ j := by
        intro j zs e
        rintro rfl
        rw [List.getElem?_set_self hlt] at e; cases e
      have n1 := nn q1
      have n2 := nn q2
      rw [List.getElem?_set_ne n1] at q1
      rw [List.getElem?_set_ne n2] at q2
      exact s.dj j k _ _ q1 q2 ne
  · exact ⟨G, s⟩
theorem vss_kill (is : List Nat) (h1 : VSs X m rest f) : VSs X m rest (ghost (kill is) f) := vss_ghost _ (kill_ok is) h1
theorem vss_fz (i : Nat) (h1 : VSs X m rest f) : VSs X m rest (ghost (fz i) f) := vss_ghost _ (fz_ok i) h1

def dPass : DS := fun env => some (.nx env)
theorem vs_pass : VS X m (.Pass pos) dPass := ⟨_, ps_pass, fun B G0 G σ H env o D s ef k => by cases ef; exact k G σ H s⟩
def dBrk : DS := fun env => some (.bk env)
theorem vs_break : VS X m (.Break pos) dBrk := ⟨_, ps_break, fun B G0 G σ H env o D s ef k => by cases ef; exact k G σ H s⟩
def dCnt : DS := fun env => some (.ct env)
theorem vs_cont : VS X m (.Continue pos) dCnt := ⟨_, ps_continue, fun B G0 G σ H env o D s ef k => by cases ef; exact k G σ H s⟩
def dIf (c : DT) (f g : DS) : DS := fun env => match c env with
  | some true => f env
  | some false => g env
  | none => none
theorem vs_if {a b : List Stmt} (hc : VT X c ft) (ha : VSs X m a f) (hb : VSs X m b g) : VS X m (.If c a b pos) (dIf ft f g) := by
  obtain ⟨t, p, q⟩ := hc
  obtain ⟨ta, pa, qa⟩ := ha
  obtain ⟨tb, pb, qb⟩ := hb
  refine ⟨_, ps_if p pa pb, fun B G0 G σ H env o D s ef k => ?_⟩
  unfold dIf at ef
  split at ef
  · rename_i e1
    exact q B G0 G σ H env true _ s e1 fun G1 H1 t1 => iteT (qa B G0 G1 σ H1 env o D (s.tr t1) ef k)
  · rename_i e1
    exact q B G0 G σ H env false _ s e1 fun G1 H1 t1 => iteF (qb B G0 G1 σ H1 env o D (s.tr t1) ef k)
  · cases ef
theorem VSt.out {K : PySem.W.Frag} {B G0 G H G' H' : Hp} {σ : Sg} {env : En} (s : VSt K B G0 G σ H env) (t : Tr G H G' H') : Tr G0 B G' H' :=
  ⟨s.g0.trans t.gg, s.bh.trans t.hh, t.gh, fun a o e => by
    rcases t.gf a o e with z | z
    · exact s.gf a o z
    · exact .inr (s.bh.free z)⟩
def dRet (fe : DE) : DS := fun env => match fe env with
  | some d => some (.rt d)
  | none => none
def dRetF (fl : DL) : DS := fun env => match fl env with
  | some xs => some (.rt (.list xs))
  | none => none
theorem vs_ret (h : VE X e fe) : VS X false (.Return (some e) pos) (dRet fe) := by
  obtain ⟨t, p, q⟩ := h
  refine ⟨_, ps_ret p, fun B G0 G σ H env o D s ef k => ?_⟩
  unfold dRet at ef
  split at ef
  · rename_i d e1
    cases ef
    refine q B G0 G σ H env d _ s e1 fun v G1 H1 t1 r1 => k v G1 H1 (s.out t1) ?_
    unfold Res
    rw [if_neg Bool.false_ne_true]
    exact r1
  · cases ef
theorem vs_retF (h : VF X e fl) : VS X true (.Return (some e) pos) (dRetF fl) := by
  obtain ⟨t, p, q⟩ := h
  refine ⟨_, ps_ret p, fun B G0 G σ H env o D s ef k => ?_⟩
  unfold dRetF at ef
  split at ef
  · rename_i d e1
    cases ef
    refine q B G0 G σ H env d _ s e1 fun v G1 H1 t1 r1 => k v G1 H1 (s.out t1) ?_
    unfold Res
    rw [if_pos rfl]
    obtain ⟨l, vs, h1, h2, h3, h4, h5⟩ := r1
    exact ⟨_, rfl, l, vs, h1, h2, h3, s.bh.free h4, h5⟩
  · cases ef
/-- return of a name's own list -/
def rdF (i : Nat) : DL := fun env => match env[i]? with
  | some (some (.o xs)) => some xs
  | _ => none
theorem vs_retO (i : Nat) {x : Str} {pos' : Pos} (hN : X.N[i]? = some x := by rfl) (hv : Vis X.env.scope x := by first | exact Or.inl rfl | exact Or.inr (Or.inl rfl) | exact Or.inr (Or.inr rfl)) (hd : (x == ("__debug__" : Str)) = false := by decide) (hcd : (x == ("__classdict__" : Str)) = false := by decide) :
    VS X true (.Return (some (.Name x pos')) pos) (dRetF (rdF i)) := by
  refine ⟨_, ps_ret (pe_var hN hv hd hcd), fun B G0 G σ H env o D s ef k => ?_⟩
  unfold dRetF rdF at ef
  split at ef
  · rename_i d e1
    cases ef
    split at e1
    · cases e1
      rename_i e2
      obtain ⟨v, h1, h2⟩ := s.sl _ _ e2
      refine ⟨v, h1, k v G H (s.out (Tr.refl s.gh)) ?_⟩
      unfold Res
      rw [if_pos rfl]
      obtain ⟨l, vs, h3, h4, h5, h6, h7⟩ := h2
      exact ⟨_, rfl, l, vs, h3, h4, h5, h6, h7⟩
    · cases e1
  · cases ef
def dRetN : DS := fun _ => some (.rt .none)
theorem vs_retN : VS X false (.Return none pos) dRetN := ⟨_, ps_retN, fun B G0 G σ H env o D s ef k => by
  cases ef
  refine k .non G H (s.out (Tr.refl s.gh)) ?_
  unfold Res
  rw [if_neg Bool.false_ne_true]
  exact .non⟩
end
end VL

set_option Elab.async false
set_option linter.all false
set_option maxRecDepth 100000
set_option maxHeartbeats 4000000
set_option exponentiation.threshold 5000
namespace VL
open PySem PySem.Spec PyProof.Rows L2

section
variable {K : PySem.W.Frag} {B G0 G H G' H' : Hp} {σ : Sg} {env : En}
theorem VSt.oneOwn (s : VSt K B G0 G σ H env) (l : Addr) (hl : ∀ (j : Nat) (xs : List D), env[j]? = some (some (.o xs)) → σ[j]? ≠ some (some (.ref l)))
    {v : V} {xs : List D} {vs : List V} (e1 : v = .ref l) (h1 : H l = some (.lst vs)) (h2 : G l = none) (h3 : B l = none) (h4 : DpAll K G vs xs) (i : Nat) : VSt K B G0 G (σ.set i (some v)) H (env.set i (some (.o xs))) := by
  subst e1
  refine ⟨s.bh, s.gh, s.g0, s.gf, by rw [List.length_set, List.length_set, s.ln], fun j x e => ?_, fun j k ys zs q1 q2 ne => ?_⟩
  · by_cases q : i = j
    · subst q
      have hlt : i < env.length := by
        obtain ⟨z, _⟩ := List.getElem?_eq_some_iff.mp e
        rwa [List.length_set] at z
      rw [List.getElem?_set_self hlt] at e
      cases e
      exact ⟨_, List.getElem?_set_self (by rw [← s.ln]; exact hlt), l, vs, rfl, h1, h2, h3, h4⟩
    · rw [List.getElem?_set_ne q] at e
      rw [List.getElem?_set_ne q]
      exact s.sl j x e
  · have lt : ∀ {j : Nat} {ys : List D}, (List.set env i (some (Sl.o xs)))[j]? = some (some (.o ys)) → j < σ.length := by
      intro j ys e
      obtain ⟨z, _⟩ := List.getElem?_eq_some_iff.mp e
      rw [List.length_set] at z
      rwa [s.ln] at z
    by_cases a : i = j
    · subst a
      have hk : i ≠ k := ne
      rw [List.getElem?_set_ne hk] at q2
      rw [List.getElem?_set_ne hk, List.getElem?_set_self (lt q1)]
      exact fun z => hl k _ q2 z.symm
    · rw [List.getElem?_set_ne a] at q1
      rw [List.getElem?_set_ne a]
      by_cases b : i = k
      · subst b
        rw [List.getElem?_set_self (lt q2)]
        exact fun z => hl j _ q1 z
      · rw [List.getElem?_set_ne b] at q2
        rw [List.getElem?_set_ne b]
        exact s.dj j k ys zs q1 q2 ne
/-- a new list comes to a name -/
theorem VSt.setO {v : V} {xs : List D} (s : VSt K B G0 G σ H env) (t : Tr G H G' H') (o : Own K H G' H' v xs) (i : Nat) : VSt K B G0 G' (σ.set i (some v)) H' (env.set i (some (.o xs))) := by
  obtain ⟨l, vs, e1, h1, h2, h3, h4⟩ := o
  refine (s.tr t).oneOwn l (fun j ys e z => ?_) e1 h1 h2 (s.bh.free h3) h4 i
  obtain ⟨w, e2, l2, vs2, e3, h5, _⟩ := s.sl _ _ e
  rw [e2, e3] at z
  cases z
  rw [h3] at h5
  cases h5
/-- a name's own list changes -/
theorem VSt.updO {l : Addr} {xs ys : List D} {us : List V} (s : VSt K B G0 G σ H env) {i : Nat} (e : env[i]? = some (some (.o xs))) (e2 : σ[i]? = some (some (.ref l))) (gl : G l = none) (bl : B l = none) (al : DpAll K G us ys) :
    VSt K B G0 G σ (upd H l (.lst us)) (env.set i (some (.o ys))) := by
  have hlt : i < env.length := (List.getElem?_eq_some_iff.mp e).1
  refine ⟨fun b u q => ?_, fun b u q => ?_, s.g0, s.gf, by rw [List.length_set, s.ln], fun j x q => ?_, fun j k zs ws q1 q2 ne => ?_⟩
  · rw [upd_ne (ne_of_none q bl)]; exact s.bh _ _ q
  · rw [upd_ne (ne_of_none q gl)]; exact s.gh _ _ q
  · by_cases z : i = j
    · subst z
      rw [List.getElem?_set_self hlt] at q
      cases q
      exact ⟨_, e2, l, us, rfl, upd_same, gl, bl, al⟩
    · rw [List.getElem?_set_ne z] at q
      obtain ⟨v, h1, h2⟩ := s.sl _ _ q
      refine ⟨v, h1, ?_⟩
      cases x with
      | v d => exact h2
      | b d => exact h2
      | o ws =>
        obtain ⟨l2, vs2, h3, h4, h5, h6, h7⟩ := h2
        refine ⟨l2, vs2, h3, ?_, h5, h6, h7⟩
        rw [upd_ne]
        · exact h4
        · rintro rfl
          exact s.dj i j xs ws e q z (by rw [e2, h1, h3])
  · have sh : ∀ {j : Nat} {zs : List D}, (List.set env i (some (Sl.o ys)))[j]? = some (some (.o zs)) → ∃ ws, env[j]? = some (some (.o ws)) := by
      intro j zs q
      by_cases z : i = j
      · subst z; exact ⟨xs, e⟩
      · rw [List.getElem?_set_ne z] at q; exact ⟨zs, q⟩
    obtain ⟨_, a⟩ := sh q1
    obtain ⟨_, b⟩ := sh q2
    exact s.dj j k _ _ a b ne
end

section
variable {X : Cx} {m : Bool} {st : Stmt} {rest body : List Stmt} {f g h : DS} {pos : Pos} {e c tg iter : Expr} {fe fa fb : DE} {fl : DL} {ft : DT}
/-! ### assignments -/
def dSet (i : Nat) (fe : DE) : DS := fun env => match fe env with
  | some d => some (.nx (env.set i (some (.v d))))
  | none => none
def dSetF (i : Nat) (fl : DL) : DS := fun env => match fl env with
  | some xs => some (.nx (env.set i (some (.o xs))))
  | none => none
theorem vs_set (i : Nat) {x : Str} {pos' : Pos} (hN : X.N.Nodup) (he : VE X e fe) (hi : X.N[i]? = some x := by rfl) (hx : Loc X.env.scope x := by first | exact Or.inl rfl | exact Or.inr rfl) (hs : swapsWith e (some (.Name x pos')) pos.line X.env = pure false := by rfl)
    (hf : X.fn x = true ∨ X.env.scope.names.lookup x = some .local := by first | exact .inl rfl | exact .inr rfl | assumption) : VS X m (.Assign [.Name x pos'] e pos) (dSet i fe) := by
  obtain ⟨t, p, q⟩ := he
  refine ⟨_, ps_set hN hi hx p hs hf, fun B G0 G σ H env o D s ef k => ?_⟩
  unfold dSet at ef
  split at ef
  · rename_i d e1
    cases ef
    exact q B G0 G σ H env d _ s e1 fun v G1 H1 t1 r1 => k G1 _ H1 ((s.tr t1).set r1 i)
  · cases ef
theorem vs_setF (i : Nat) {x : Str} {pos' : Pos} (hN : X.N.Nodup) (he : VF X e fl) (hi : X.N[i]? = some x := by rfl) (hx : Loc X.env.scope x := by first | exact Or.inl rfl | exact Or.inr rfl) (hs : swapsWith e (some (.Name x pos')) pos.line X.env = pure false := by rfl)
    (hf : X.fn x = true ∨ X.env.scope.names.lookup x = some .local := by first | exact .inl rfl | exact .inr rfl | assumption) : VS X m (.Assign [.Name x pos'] e pos) (dSetF i fl) := by
  obtain ⟨t, p, q⟩ := he
  refine ⟨_, ps_set hN hi hx p hs hf, fun B G0 G σ H env o D s ef k => ?_⟩
  unfold dSetF at ef
  split at ef
  · rename_i xs e1
    cases ef
    exact q B G0 G σ H env xs _ s e1 fun v G1 H1 t1 r1 => k G1 _ H1 (s.setO t1 r1 i)
  · cases ef
/-- name = [.. for ..], the name a local -/
theorem vs_setLc (i : Nat) {y : Str} {py : Pos} {elt : Expr} {ifs : List Expr} {scope : Scope} {spos : Pos} {it : DL} {tt : DT} (own : List (Str × Nat)) (T : Tg) (hc : X.calm = true) (hN : X.N.Nodup) (hi : VIc X tg iter it) (ok : BlkOk X.N X.env.scope scope own)
    (hg : ∀ (s : Shared) (H : Hp) (C : Addr) (cl : List (Str × Addr)) (fp : List Addr), PG (X.blk s H scope (compEnvC scope cl C X.env) fp) tg (gT X.K T))
    (ht : ∀ (s : Shared) (H : Hp) (C : Addr) (cl : List (Str × Addr)) (fp : List Addr), VTs (X.blk s H scope (compEnvC scope cl C X.env) fp) ifs tt)
    (he : ∀ (s : Shared) (H : Hp) (C : Addr) (cl : List (Str × Addr)) (fp : List Addr), VE (X.blk s H scope (compEnvC scope cl C X.env) fp) elt fe)
    (hsw : swapsWith (.ListComp elt [⟨tg, iter, ifs, 0⟩] scope pos) (some (.Name y py)) spos.line X.env = pure true) (hy : X.N[i]? = some y := by rfl) (hyl : X.env.scope.names.lookup y = some .local := by rfl)
    (hT : T.ix.all (fun i => (own.map (·.2)).contains i) = true := by rfl) (hs : ∀ x, foldedSetIterable iter X.env x = pure x := by intro _; rfl) :
    VS X m (.Assign [.Name y py] (.ListComp elt [⟨tg, iter, ifs, 0⟩] scope pos) spos) (dSetF i (dLc it T tt fe (own.map (·.2)))) := by
  obtain ⟨wi, pw, qw⟩ := hi
  refine ⟨_, ps_setLc (g := gT X.K T) (tt := tT X.K tt) (te := tE X.K fe) hc hN hy hyl hsw pw ok hg ht (fun s H C cl fp => (he s H C cl fp).canon) hs, fun B G0 G σ H env o D s ef k => ?_⟩
  unfold dSetF at ef
  split at ef
  · rename_i xs e0
    cases ef
    unfold dLc at e0
    split at e0
    · cases e0
    · rename_i ds e1
      split at e0
      · rename_i hz
        refine qw B G0 G σ H env ds _ s e1 fun J G1 H1 t1 w => ?_
        refine lc_run (Q := fun x H2 => gName i x σ H2 D.nx) (fun i hi => ?_) (s.tr t1) w hz e0 fun v G2 H2 t2 o => ?_
        · have := List.all_eq_true.mp hT i hi
          simpa using this
        · obtain ⟨l, vs, h1, h2, h3, h4, h5⟩ := o
          exact k G2 _ H2 (s.setO (t1.trans t2) ⟨l, vs, h1, h2, h3, t1.hh.free h4, h5⟩ i)
      · cases e0
  · cases ef
/-- a, b, .. = a tuple -/
def dAsg (T : Tg) (fe : DE) : DS := fun env => match fe env with
  | some d => (match setT T d env with
    | some env' => some (.nx env')
    | none => none)
  | none => none
theorem vs_asg (T : Tg) (he : VE X e fe) (hg : PG X tg (gT X.K T)) (hs : swapsWithSole [tg] e pos.line X.env = pure false := by rfl) (hw : swappedStores [tg] e X.env = pure none := by rfl)
    (h1 : (assignEach [tg] X.env).map (·.2) = [assign tg X.env] := by rfl) : VS X m (.Assign [tg] e pos) (dAsg T fe) := by
  obtain ⟨t, p, q⟩ := he
  refine ⟨_, ps_asg p hg hs hw h1, fun B G0 G σ H env o D s ef k => ?_⟩
  unfold dAsg at ef
  split at ef
  · rename_i d e1
    split at ef
    · rename_i env' e2
      cases ef
      exact q B G0 G σ H env d _ s e1 fun v G1 H1 t1 r1 => tg_set [] (s.tr t1) r1 e2 fun σ' s' _ => k G1 σ' H1 s'
    · cases ef
  · cases ef
/-- a, b = x, y -/
def dPar (is : List Nat) (fl : DL) : DS := fun env => match fl env with
  | some ds => if is.length = ds.length then some (.nx (setL is ds env)) else none
  | none => none
theorem vs_par (i j : Nat) {x y : Str} {a b : Expr} {px py pt : Pos} {kt k2 pt2} {ms : List Bool} (hc : X.calm = true) (hN : X.N.Nodup) (hij : i ≠ j) (ha : VA X [a, b] ms fl)
    (hw : swappedStores [.Tuple [.Name x px, .Name y py] kt pt] (.Tuple [a, b] k2 pt2) X.env = pure (some [x, y]) := by rfl) (hm : ms.all (fun b => !b) = true := by rfl)
    (hi : X.N[i]? = some x := by rfl) (hj : X.N[j]? = some y := by rfl) (hx : X.env.scope.names.lookup x = some .local := by rfl) (hy : X.env.scope.names.lookup y = some .local := by rfl)
    (hs : swapsWithSole [.Tuple [.Name x px, .Name y py] kt pt] (.Tuple [a, b] k2 pt2) pos.line X.env = pure false := by rfl) :
    VS X m (.Assign [.Tuple [.Name x px, .Name y py] kt pt] (.Tuple [a, b] k2 pt2) pos) (dPar [i, j] fl) := by
  obtain ⟨t, p, q⟩ := ha
  refine ⟨_, ps_par hc hN hi hj hij hx hy p hw hs, fun B G0 G σ H env o D s ef k => ?_⟩
  unfold dPar at ef
  split at ef
  · rename_i ds e1
    split at ef
    · rename_i hl
      cases ef
      refine q B G0 G σ H env ds _ s e1 fun vs G1 H1 t1 r1 => ?_
      have al := r1.all hm
      match ds, hl, al with
      | [d1, d2], _, .cons a1 (.cons a2 .nil) => exact ⟨_, _, rfl, k G1 _ H1 (((s.tr t1).set a1 i).set a2 j)⟩
    · cases ef
  · cases ef
theorem vs_par3 (i j l : Nat) {x y z : Str} {a b c : Expr} {px py pz pt : Pos} {kt k2 pt2} {ms : List Bool} (hc : X.calm = true) (hN : X.N.Nodup) (hij : i ≠ j) (hil : i ≠ l) (hjl : j ≠ l) (ha : VA X [a, b, c] ms fl)
    (hw : swappedStores [.Tuple [.Name x px, .Name y py, .Name z pz] kt pt] (.Tuple [a, b, c] k2 pt2) X.env = pure (some [x, y, z]) := by rfl) (hm : ms.all (fun b => !b) = true := by rfl)
    (hi : X.N[i]? = some x := by rfl) (hj : X.N[j]? = some y := by rfl) (hl : X.N[l]? = some z := by rfl) (hx : X.env.scope.names.lookup x = some .local := by rfl) (hy : X.env.scope.names.lookup y = some .local := by rfl) (hz : X.env.scope.names.lookup z = some .local := by rfl)
    (hs : swapsWithSole [.Tuple [.Name x px, .Name y py, .Name z pz] kt pt] (.Tuple [a, b, c] k2 pt2) pos.line X.env = pure false := by rfl) :
    VS X m (.Assign [.Tuple [.Name x px, .Name y py, .Name z pz] kt pt] (.Tuple [a, b, c] k2 pt2) pos) (dPar [i, j, l] fl) := by
  obtain ⟨t, p, q⟩ := ha
  refine ⟨_, ps_par3 hc hN hi hj hl hij hil hjl hx hy hz p hw hs, fun B G0 G σ H env o D s ef k => ?_⟩
  unfold dPar at ef
  split at ef
  · rename_i ds e1
    split at ef
    · rename_i hl
      cases ef
      refine q B G0 G σ H env ds _ s e1 fun vs G1 H1 t1 r1 => ?_
      have al := r1.all hm
      match ds, hl, al with
      | [d1, d2, d3], _, .cons a1 (.cons a2 (.cons a3 .nil)) => exact ⟨_, _, _, rfl, k G1 _ H1 ((((s.tr t1).set a1 i).set a2 j).set a3 l)⟩
    · cases ef
  · cases ef
/-- a value that is dropped -/
def dDrop (fe : DE) : DS := fun env => match fe env with
  | some _ => some (.nx env)
  | none => none
theorem vs_expr (he : VO X e fe) (hs : swapsWith e none pos.line X.env = pure false := by rfl) : VS X m (.Expr e pos) (dDrop fe) := by
  obtain ⟨t, p, q⟩ := he
  refine ⟨_, ps_expr p hs, fun B G0 G σ H env o D s ef k => ?_⟩
  unfold dDrop at ef
  split at ef
  · rename_i d e1
    cases ef
    exact q B G0 G σ H env d _ s e1 fun v G1 H1 t1 r1 => k G1 σ H1 (s.tr t1)
  · cases ef
/-! ### a list of one's own, changed -/
def dApp (i : Nat) (fe : DE) : DS := fun env => match env[i]? with
  | some (some (.o xs)) => (match fe env with
    | some d => if xs.length < sizeD then some (.nx (env.set i (some (.o (xs ++ [d]))))) else none
    | none => none)
  | _ => none
theorem vs_app (i : Nat) {x : Str} {p apos cpos : Pos} (he : VE X e fe) (hN : X.N[i]? = some x := by rfl) (hv : Vis X.env.scope x := by first | exact Or.inl rfl | exact Or.inr (Or.inl rfl) | exact Or.inr (Or.inr rfl)) (hd : (x == ("__debug__" : Str)) = false := by decide) (hcd : (x == ("__classdict__" : Str)) = false := by decide)
    (hbase : attributeBase (.Name x p) "append" X.env (eval (.Name x p) X.env) = eval (.Name x p) X.env := by rfl)
    (hfew : ((backTo cpos (starEach [e] X.env)).all (fun x => !x.1) && (backToKw cpos (keywordEach [] X.env)).all (fun x => x.1.isSome)
      && decide ([e].length + ([] : List Keyword).length + (if ([] : List Keyword).isEmpty then 0 else 1) < 30)) = true := by rfl)
    (hline : (apos.endLine == cpos.line) = true := by rfl) (hs : starEach [e] X.env = (false, eval e X.env) :: starEach [] X.env := by rfl) (hplain : (backTo cpos (starEach [] X.env)).any (·.1) = false := by rfl)
    (hsw : swapsWith (.Call (.Attribute (.Name x p) "append" apos) [e] [] cpos) none pos.line X.env = pure false := by rfl) :
    VS X m (.Expr (.Call (.Attribute (.Name x p) "append" apos) [e] [] cpos) pos) (dApp i fe) := by
  obtain ⟨t, pp, q⟩ := he
  refine ⟨_, ps_expr (pe_bm PySem.F.plainAttrs_list PySem.F.slot_list_append PySem.F.type_list_append mt_append (pe_var hN hv hd hcd) (pa_cons pp pa_nil hs) hbase hfew hline hs hplain) hsw, fun B G0 G σ H env o D s ef k => ?_⟩
  unfold dApp at ef
  split at ef
  · rename_i xs e0
    split at ef
    · rename_i d e1
      split at ef
      · rename_i hz
        cases ef
        obtain ⟨v, e2, l, vs, e3, hl, gl, bl, al⟩ := s.sl _ _ e0
        subst e3
        refine ⟨_, e2, .inl ⟨rfl, vs, SqL.of hl⟩, q B G0 G σ H env d _ s e1 fun v G1 H1 t1 r1 => ?_⟩
        have gl1 := t1.bf hl gl
        exact ⟨l, vs, v, rfl, rfl, t1.hh _ _ hl, by rw [dpAll_length al]; exact hz, k G1 σ _ ((s.tr t1).updO e0 e2 gl1 bl (dpAll_append (dpAll_mono t1.gg _ al) (.cons r1 .nil)))⟩
      · cases ef
    · cases ef
  · cases ef
def dExt (i j : Nat) : DS := fun env => match env[i]? with
  | some (some (.o xs)) => (match env[j]? with
    | some (some (.o ys)) => if xs.length + ys.length ≤ sizeD then some (.nx (env.set i (some (.o (xs ++ ys))))) else none
    | _ => none)
  | _ => none
theorem vs_ext (i j : Nat) {x y : Str} {p p2 apos cpos : Pos} (hij : i ≠ j) (hN : X.N[i]? = some x := by rfl) (hv : Vis X.env.scope x := by first | exact Or.inl rfl | exact Or.inr (Or.inl rfl) | exact Or.inr (Or.inr rfl)) (hd : (x == ("__debug__" : Str)) = false := by decide) (hcd : (x == ("__classdict__" : Str)) = false := by decide)
    (hN2 : X.N[j]? = some y := by rfl) (hv2 : Vis X.env.scope y := by first | exact Or.inl rfl | exact Or.inr (Or.inl rfl) | exact Or.inr (Or.inr rfl)) (hd2 : (y == ("__debug__" : Str)) = false := by decide) (hcd2 : (y == ("__classdict__" : Str)) = false := by decide)
    (hbase : attributeBase (.Name x p) "extend" X.env (eval (.Name x p) X.env) = eval (.Name x p) X.env := by rfl)
    (hfew : ((backTo cpos (starEach [.Name y p2] X.env)).all (fun x => !x.1) && (backToKw cpos (keywordEach [] X.env)).all (fun x => x.1.isSome)
      && decide ([Expr.Name y p2].length + ([] : List Keyword).length + (if ([] : List Keyword).isEmpty then 0 else 1) < 30)) = true := by rfl)
    (hline : (apos.endLine == cpos.line) = true := by rfl) (hs : starEach [.Name y p2] X.env = (false, eval (.Name y p2) X.env) :: starEach [] X.env := by rfl) (hplain : (backTo cpos (starEach [] X.env)).any (·.1) = false := by rfl)
    (hsw : swapsWith (.Call (.Attribute (.Name x p) "extend" apos) [.Name y p2] [] cpos) none pos.line X.env = pure false := by rfl) :
    VS X m (.Expr (.Call (.Attribute (.Name x p) "extend" apos) [.Name y p2] [] cpos) pos) (dExt i j) := by
  refine ⟨_, ps_expr (pe_bm PySem.F.plainAttrs_list PySem.F.slot_list_extend PySem.F.type_list_extend mt_extend (pe_var hN hv hd hcd) (pa_cons (pe_var hN2 hv2 hd2 hcd2) pa_nil hs) hbase hfew hline hs hplain) hsw, fun B G0 G σ H env o D s ef k => ?_⟩
  unfold dExt at ef
  split at ef
  · rename_i xs e0
    split at ef
    · rename_i ys e1
      split at ef
      · rename_i hz
        cases ef
        obtain ⟨v, e2, l, vs, e3, hl, gl, bl, al⟩ := s.sl _ _ e0
        obtain ⟨v', e2', l', vs', e3', hl', gl', bl', al'⟩ := s.sl _ _ e1
        subst e3
        subst e3'
        refine ⟨_, e2, .inl ⟨rfl, vs, SqL.of hl⟩, _, e2', ?_⟩
        exact ⟨l, l', vs, vs', rfl, rfl, hl, hl', by rw [dpAll_length al, dpAll_length al']; exact hz, k G σ _ (s.updO e0 e2 gl bl (dpAll_append al al'))⟩
      · cases ef
    · cases ef
  · cases ef
def dPop (i : Nat) : DS := fun env => match env[i]? with
  | some (some (.o xs)) => if 0 < xs.length then some (.nx (env.set i (some (.o xs.dropLast)))) else none
  | _ => none
theorem vs_pop (i : Nat) {x : Str} {p apos cpos : Pos} (hN : X.N[i]? = some x := by rfl) (hv : Vis X.env.scope x := by first | exact Or.inl rfl | exact Or.inr (Or.inl rfl) | exact Or.inr (Or.inr rfl)) (hd : (x == ("__debug__" : Str)) = false := by decide) (hcd : (x == ("__classdict__" : Str)) = false := by decide)
    (hbase : attributeBase (.Name x p) "pop" X.env (eval (.Name x p) X.env) = eval (.Name x p) X.env := by rfl) (hline : (apos.endLine == cpos.line) = true := by rfl)
    (hsw : swapsWith (.Call (.Attribute (.Name x p) "pop" apos) [] [] cpos) none pos.line X.env = pure false := by rfl) :
    VS X m (.Expr (.Call (.Attribute (.Name x p) "pop" apos) [] [] cpos) pos) (dPop i) := by
  refine ⟨_, ps_expr (pe_bm0 PySem.F.plainAttrs_list PySem.F.slot_list_pop PySem.F.type_list_pop mt_pop (pe_var hN hv hd hcd) hbase hline) hsw, fun B G0 G σ H env o D s ef k => ?_⟩
  unfold dPop at ef
  split at ef
  · rename_i xs e0
    split at ef
    · rename_i hz
      cases ef
      obtain ⟨v, e2, l, vs, e3, hl, gl, bl, al⟩ := s.sl _ _ e0
      subst e3
      have e4 := dpAll_length al
      exact ⟨_, e2, .inl ⟨rfl, vs, SqL.of hl⟩, l, vs, vs[vs.length - 1]'(by omega), rfl, rfl, hl, List.getElem?_eq_getElem _, k G σ _ (s.updO e0 e2 gl bl (dpAll_dropLast al))⟩
    · cases ef
  · cases ef
/-- xs[i] = e -/
def dPut (i : Nat) (fi fe : DE) : DS := fun env => match fe env with
  | some d => (match env[i]? with
    | some (some (.o xs)) => (match fi env with
      | some (.int z) => (match ixN xs.length z with
        | some j => some (.nx (env.set i (some (.o (xs.set j d)))))
        | none => none)
      | _ => none)
    | _ => none)
  | none => none
theorem vs_put (i : Nat) {x : Str} {p tpos : Pos} {ei : Expr} {fi : DE} (hei : VO X ei fi) (he : VE X e fe) (hN : X.N[i]? = some x := by rfl) (hv : Vis X.env.scope x := by first | exact Or.inl rfl | exact Or.inr (Or.inl rfl) | exact Or.inr (Or.inr rfl)) (hd : (x == ("__debug__" : Str)) = false := by decide) (hcd : (x == ("__classdict__" : Str)) = false := by decide)
    (ha : ∀ v, assign (.Subscript (.Name x p) ei tpos) X.env v = (do
      let ov ← holding [v] (eval (.Name x p) X.env)
      let iv ← holding [v, ov] (eval ei X.env)
      standAt tpos
      holding [v, ov, iv] (setItem ov iv v)
      release [v, ov, iv] []) := by intro _; rfl)
    (hs : swapsWithSole [.Subscript (.Name x p) ei tpos] e pos.line X.env = pure false := by rfl) (hw : swappedStores [.Subscript (.Name x p) ei tpos] e X.env = pure none := by rfl)
    (h1 : (assignEach [.Subscript (.Name x p) ei tpos] X.env).map (·.2) = [assign (.Subscript (.Name x p) ei tpos) X.env] := by rfl) : VS X m (.Assign [.Subscript (.Name x p) ei tpos] e pos) (dPut i fi fe) := by
  obtain ⟨t, pp, q⟩ := he
  obtain ⟨ti, pi, qi⟩ := hei
  refine ⟨_, ps_asg pp (pg_sub (pe_var hN hv hd hcd) pi set_list ha) hs hw h1, fun B G0 G σ H env o D s ef k => ?_⟩
  unfold dPut at ef
  split at ef
  · rename_i d e1
    split at ef
    · rename_i xs e0
      split at ef
      · rename_i z ez
        split at ef
        · rename_i j ej
          cases ef
          refine q B G0 G σ H env d _ s e1 fun v G1 H1 t1 r1 => ?_
          obtain ⟨v', e2, l, vs, e3, hl, gl, bl, al⟩ := (s.tr t1).sl _ _ e0
          subst e3
          refine ⟨_, e2, qi B G0 G1 σ H1 env _ _ (s.tr t1) ez fun iv G2 H2 t2 r2 => ?_⟩
          cases r2
          exact ⟨l, vs, _, j, rfl, rfl, t2.hh _ _ hl, by rw [dpAll_length al]; exact ej, k G2 σ _ (((s.tr t1).tr t2).updO e0 e2 (t2.bf hl gl) bl (dpAll_set (dp_mono t2.gg _ r1) j (dpAll_mono t2.gg _ al)))⟩
        · cases ef
      · cases ef
    · cases ef
  · cases ef

/-! ### loops -/
theorem VSt.rebase {K : PySem.W.Frag} {B G0 G H : Hp} {σ : Sg} {env : En} (s : VSt K B G0 G σ H env) : VSt K B G G σ H env := ⟨s.bh, s.gh, Same.refl _, fun _ _ e => .inl e, s.ln, s.sl, s.dj⟩
theorem VSt.unbase {K : PySem.W.Frag} {B G0 G G' H H' : Hp} {σ σ' : Sg} {env env' : En} (s : VSt K B G0 G σ H env) (s' : VSt K B G G' σ' H' env') : VSt K B G0 G' σ' H' env' :=
  ⟨s'.bh, s'.gh, s.g0.trans s'.g0, fun a o e => by
    rcases s'.gf a o e with z | z
    · exact s.gf a o z
    · exact .inr z, s'.ln, s'.sl, s'.dj⟩
theorem Fin.rebase {K : PySem.W.Frag} {m : Bool} {B G0 G H : Hp} {σ : Sg} {env : En} {D : Ends} {o : Out} (s : VSt K B G0 G σ H env) (k : Fin K m B G0 D o) : Fin K m B G D o := by
  cases o with
  | nx e => exact fun G' σ' H' s' => k G' σ' H' (s.unbase s')
  | bk e => exact fun G' σ' H' s' => k G' σ' H' (s.unbase s')
  | ct e => exact fun G' σ' H' s' => k G' σ' H' (s.unbase s')
  | rt d => exact fun v G' H' t r => k v G' H' ⟨s.g0.trans t.gg, t.hh, t.gh, fun a o e => by
      rcases t.gf a o e with z | z
      · exact s.gf a o z
      · exact .inr z⟩ r
def goFor (T : Tg) (body : DS) : List D → En → Option Out
  | [], env => some (.nx env)
  | d :: ds, env => (match setT T d env with
    | none => none
    | some e1 => (match body e1 with
      | none => none
      | some (.nx e) => goFor T body ds e
      | some (.ct e) => goFor T body ds e
      | some (.bk e) => some (.nx e)
      | some (.rt r) => some (.rt r)))
def dFor (it : DL) (T : Tg) (body : DS) : DS := fun env => match it env with
  | none => none
  | some ds => goFor T body ds env
theorem vs_for (T : Tg) (hp : PassesOwn (model X.prog X.w) X.A X.env X.xe) (hc : X.calm = true) (hi : VI X tg iter fl) (hg : PG X tg (gT X.K T)) (hb : VSs X m body f) (hs : ∀ x, foldedSetIterable iter X.env x = pure x := by intro _; rfl) : VS X m (.For tg iter body [] pos) (dFor fl T f) := by
  obtain ⟨wi, pw, qw⟩ := hi
  obtain ⟨tb, pb, qb⟩ := hb
  refine ⟨_, ps_for hp hc pw hg pb hs, fun B G0 G σ H env o D s ef k => ?_⟩
  unfold dFor at ef
  split at ef
  · cases ef
  · rename_i ds e1
    refine qw B G0 G σ H env ds _ s e1 fun J G1 H1 t1 w => ?_
    have k1 := k.rebase (s.tr t1)
    refine ⟨fun i m σ H => ∃ G2 env, VSt X.K B G1 G2 σ H env ∧ goFor T f (ds.drop i) env = some o ∧ m = ds.length - i, ⟨_, G1, env, (s.tr t1).rebase, ef, rfl⟩, ?_⟩
    rintro i m σ H ⟨G2, env, s, er, hm⟩
    obtain ⟨w1, w2, w3⟩ := w i H ⟨s.bh, s.g0.trans s.gh⟩
    by_cases q : i < ds.length
    · refine .inr ⟨w1 q, fun σ' H' => ∃ m', m' < m ∧ ∃ G2 env, VSt X.K B G1 G2 σ' H' env ∧ goFor T f (ds.drop (i + 1)) env = some o ∧ m' = ds.length - (i + 1), fun σ' H' ⟨m', h1, h2⟩ => ⟨m', h1, h2⟩, fun x H' hy => ?_⟩
      obtain ⟨rfl, dx⟩ := w3 x H' hy _ (List.getElem?_eq_getElem q)
      rw [List.drop_eq_getElem_cons q] at er
      generalize hd : ds[i] = d at er dx
      unfold goFor at er
      split at er
      · cases er
      · rename_i e2 es
        refine tg_set [] s (dp_mono s.g0 _ dx) es fun σ2 s2 _ => ?_
        split at er
        · cases er
        · rename_i e3 eb
          exact qb B G1 G2 σ2 H' e2 _ _ s2 eb fun G' σ' H'' s' => ⟨_, by omega, G', e3, s', er, rfl⟩
        · rename_i e3 eb
          exact qb B G1 G2 σ2 H' e2 _ _ s2 eb fun G' σ' H'' s' => ⟨_, by omega, G', e3, s', er, rfl⟩
        · rename_i e3 eb
          cases er
          exact qb B G1 G2 σ2 H' e2 _ _ s2 eb k1
        · rename_i r eb
          cases er
          exact qb B G1 G2 σ2 H' e2 _ _ s2 eb k1
    · rw [List.drop_eq_nil_of_le (by omega)] at er
      cases er
      exact .inl ⟨w2 (by omega), k1 G2 σ H s⟩
/-- while: the number of turns has a bound that no run of ours comes to -/
def goW (c : DT) (body : DS) : Nat → En → Option Out
  | 0, _ => none
  | n + 1, env => (match c env with
    | none => none
    | some false => some (.nx env)
    | some true => (match body env with
      | none => none
      | some (.nx e) => goW c body n e
      | some (.ct e) => goW c body n e
      | some (.bk e) => some (.nx e)
      | some (.rt r) => some (.rt r)))
def fuel : Nat := 2 ^ 4096
def dWhile (c : DT) (body : DS) : DS := fun env => goW c body fuel env
theorem vs_while (hp : PassesOwn (model X.prog X.w) X.A X.env X.xe) (hc : VT X c ft) (hb : VSs X m body f) : VS X m (.While c body [] pos) (dWhile ft f) := by
  obtain ⟨tc, pc, qc⟩ := hc
  obtain ⟨tb, pb, qb⟩ := hb
  refine ⟨_, ps_while hp pc pb, fun B G0 G σ H env o D s ef k => ?_⟩
  unfold dWhile at ef
  generalize fuel = n at ef
  refine ⟨fun m σ H => ∃ G2 env, VSt X.K B G0 G2 σ H env ∧ goW ft f m env = some o, ⟨n, G, env, s, ef⟩, ?_⟩
  rintro m σ H ⟨G2, env, s, er⟩
  cases m with
  | zero => cases er
  | succ m =>
    unfold goW at er
    split at er
    · cases er
    · rename_i e1
      cases er
      exact qc B G0 G2 σ H env false _ s e1 fun G3 H3 t3 => iteF (k G3 σ H3 (s.tr t3))
    · rename_i e1
      refine qc B G0 G2 σ H env true _ s e1 fun G3 H3 t3 => iteT ⟨fun σ' H' => ∃ m', m' < m + 1 ∧ ∃ G2 env, VSt X.K B G0 G2 σ' H' env ∧ goW ft f m' env = some o, fun σ' H' h => h, ?_⟩
      split at er
      · cases er
      · rename_i e3 eb
        exact qb B G0 G3 σ H3 env _ _ (s.tr t3) eb fun G' σ' H'' s' => ⟨m, Nat.lt_succ_self _, G', e3, s', er⟩
      · rename_i e3 eb
        exact qb B G0 G3 σ H3 env _ _ (s.tr t3) eb fun G' σ' H'' s' => ⟨m, Nat.lt_succ_self _, G', e3, s', er⟩
      · rename_i e3 eb
        cases er
        exact qb B G0 G3 σ H3 env _ _ (s.tr t3) eb k
      · rename_i r eb
        cases er
        exact qb B G0 G3 σ H3 env _ _ (s.tr t3) eb k
end

/-! ### a def keeps the promise that its body's data make -/
def mkEn : List Bool → List D → En
  | m :: ms, d :: ds => some (if m = true then .b d else .v d) :: mkEn ms ds
  | _, _ => []
def runD (m : Bool) (n : Nat) (ms : List Bool) (body : DS) (ds : List D) : Option D := match body (mkEn ms ds ++ List.replicate (n - ms.length) none) with
  | some (.rt d) => some d
  | some (.nx _) => if m = true then none else some .none
  | _ => none
theorem args_start {K : PySem.W.Frag} {G H : Hp} : ∀ {ms : List Bool} {vs : List V} {ds : List D}, ArgsOk K G H ms vs ds → (mkEn ms ds).length = vs.length ∧
    ∀ (i : Nat) (s : Sl), (mkEn ms ds)[i]? = some (some s) → ∃ v, (vs.map some)[i]? = some (some v) ∧ SlOk K H G H v s ∧ ∀ xs, s ≠ .o xs
  | _, _, _, .nil => ⟨rfl, fun i s e => by simp [mkEn] at e⟩
  | _, _, _, .lent r t => ⟨by show (mkEn _ _).length + 1 = _; rw [(args_start t).1]; rfl, fun i s e => by
    cases i with
    | zero => simp [mkEn] at e; subst e; exact ⟨_, rfl, r, fun _ => nofun⟩
    | succ i =>
      obtain ⟨v, h1, h2⟩ := (args_start t).2 i s (by simpa [mkEn] using e)
      exact ⟨v, by simpa using h1, h2⟩⟩
  | _, _, _, .kept r t => ⟨by show (mkEn _ _).length + 1 = _; rw [(args_start t).1]; rfl, fun i s e => by
    cases i with
    | zero => simp [mkEn] at e; subst e; exact ⟨_, rfl, r, fun _ => nofun⟩
    | succ i =>
      obtain ⟨v, h1, h2⟩ := (args_start t).2 i s (by simpa [mkEn] using e)
      exact ⟨v, by simpa using h1, h2⟩⟩
theorem vst_start {K : PySem.W.Frag} {G H : Hp} {ms : List Bool} {vs : List V} {ds : List D} (N : List Str) (sg : Same G H) (a : ArgsOk K G H ms vs ds) : VSt K H G G (L2.start N vs) H (mkEn ms ds ++ List.replicate (N.length - ms.length) none) := by
  obtain ⟨h1, h2⟩ := args_start a
  have hl := a.len1
  have no : ∀ (i : Nat) (s : Sl), (mkEn ms ds ++ List.replicate (N.length - ms.length) none)[i]? = some (some s) → ∃ v, (L2.start N vs)[i]? = some (some v) ∧ SlOk K H G H v s ∧ ∀ xs, s ≠ .o xs := by
    intro i s e
    rw [List.getElem?_append] at e
    unfold L2.start
    rw [List.getElem?_append]
    split at e
    · rename_i hi
      rw [if_pos (by rw [List.length_map]; omega)]
      exact h2 i s e
    · rw [List.getElem?_replicate] at e
      split at e <;> cases e
  refine ⟨Same.refl _, sg, Same.refl _, fun _ _ e => .inl e, ?_, fun i s e => let ⟨v, a, b, _⟩ := no i s e; ⟨v, a, b⟩, fun i j xs ys e _ _ => ?_⟩
  · unfold L2.start
    rw [List.length_append, List.length_append, List.length_replicate, List.length_replicate, List.length_map, h1, hl]
  · obtain ⟨_, _, _, h⟩ := no i _ e
    exact absurd rfl (h xs)
section
variable {P : Program} {w : World} {K : PySem.W.Frag} {mg : Str → Option Value} {base : Heap} {x : Str} {st : Stmt} {f : Addr} {fd : FuncData} {N ps : List Str} {k : Nat} {m : Bool} {ms : List Bool} {body : DS}
abbrev FnP (K : PySem.W.Frag) (x : Str) (st : Stmt) (f : Addr) (fd : FuncData) : Prop := FunD K x x (defArgs st) (defBody st) (defScope st) [] [] f fd
/-- the context of a body -/
abbrev CxB (P : Program) (w : World) (K : PySem.W.Frag) (mg : Str → Option Value) (base : Heap) (N : List Str) (x : Str) (st : Stmt) (f : Addr) (cdv : Value) (A : Around) (outer : List Env) (s : Shared) (H : Hp) (E : XK) : Cx :=
  (cxOf CX0 P w K mg base N x (defScope st) f cdv A outer s H E).nox
theorem def_ok (F : FnP K x st f fd) (S : FnScope N ps (defScope st)) (hl : ms.length = ps.length)
    (hb : ∀ (cdv : Value) (A : Around) (outer : List Env) (s : Shared) (H : Hp) (E : XK), Room k (CxB P w K mg base N x st f cdv A outer s H E).A → VSs (CxB P w K mg base N x st f cdv A outer s H E) m (defBody st) body) :
    FnOk P w K mg base CX0 (k + 1) f fd ps (spV K m ms (runD m N.length ms body)) := by
  refine F.ok S (fun vs H Q E h => ?_) (fun cdv A outer s H vs Q E hr h => ?_)
  · obtain ⟨G, ds, d, _, a, _⟩ := h
    rw [a.len1, hl]
  · obtain ⟨G, ds, d, sg, a, eM, k⟩ := h
    obtain ⟨t, p, q⟩ := hb cdv A outer s H E hr
    refine ⟨t, PSs.nox p, ?_⟩
    have s0 := vst_start N sg a
    unfold runD at eM
    split at eM
    · rename_i r e1
      cases eM
      exact q H G G _ H _ _ _ s0 e1 fun v G' H' t r => k v G' H' t r
    · rename_i env' e1
      split at eM
      · cases eM
      · rename_i hm
        cases eM
        refine q H G G _ H _ _ _ s0 e1 fun G' σ' H' s' => k .non G' H' ⟨s'.g0, s'.bh, s'.gh, s'.gf⟩ ?_
        unfold Res
        rw [if_neg hm]
        exact .non
    · cases eM
theorem cal_mk {M : List D → Option D} (F : FnP K x st f fd) (ok : FnOk P w K mg base CX0 k f fd ps (spV K m ms M)) (hm : mg x = some (.ref f))
    (h : ∀ (kV doc pm : Value) (an : Option Addr) (cdv ct : Value) (us : List Value), us.length = ps.length → bindArgs (PySem.W.fnOf x x (defArgs st) (defBody st) (defScope st) .none kV doc pm an cdv ct) ⟨us, []⟩ = pure (ps.zip us)) :
    Cal P w K mg base x ps k (spV K m ms M) := ⟨f, fd, ok, hm, F.kp, F.bindsN h⟩
theorem fn_none (hl : ms.length = ps.length) : FnOk P w K mg base CX0 k f fd ps (spV K m ms fun _ => none) :=
  ⟨fun _ _ _ _ ⟨_, _, _, _, _, e, _⟩ => (nomatch e), fun _ _ _ _ _ _ _ _ _ _ _ _ _ ⟨_, _, _, _, _, e, _⟩ => (nomatch e)⟩
theorem def_cal (k n : Nat) (M : List D → Option D) (F : FnP K x st f fd) (hf : mg x = some (.ref f)) (S : FnScope N ps (defScope st)) (hl : ms.length = ps.length) (hn : N.length = n) (hM : M = runD m n ms body)
    (h : ∀ (kV doc pm : Value) (an : Option Addr) (cdv ct : Value) (us : List Value), us.length = ps.length → bindArgs (PySem.W.fnOf x x (defArgs st) (defBody st) (defScope st) .none kV doc pm an cdv ct) ⟨us, []⟩ = pure (ps.zip us))
    (hb : ∀ (cdv : Value) (A : Around) (outer : List Env) (s : Shared) (H : Hp) (E : XK), Room k (CxB P w K mg base N x st f cdv A outer s H E).A → VSs (CxB P w K mg base N x st f cdv A outer s H E) m (defBody st) body) :
    Cal P w K mg base x ps (k + 1) (spV K m ms M) := by
  subst hn
  subst hM
  exact cal_mk F (def_ok F S hl hb) hf h
theorem def_fn (k n : Nat) (M : List D → Option D) (F : FnP K x st f fd) (S : FnScope N ps (defScope st)) (hl : ms.length = ps.length) (hn : N.length = n) (hM : M = runD m n ms body)
    (hb : ∀ (cdv : Value) (A : Around) (outer : List Env) (s : Shared) (H : Hp) (E : XK), Room k (CxB P w K mg base N x st f cdv A outer s H E).A → VSs (CxB P w K mg base N x st f cdv A outer s H E) m (defBody st) body) :
    FnOk P w K mg base CX0 (k + 1) f fd ps (spV K m ms M) := by
  subst hn
  subst hM
  exact def_ok F S hl hb
/-- how a law is entered: the script is lent -/
theorem enter {M : List D → Option D} {H : Hp} {a : Addr} {ns : List Int} (h : M [.list (ns.map PyData.int)] = some (.bool true)) (hS : SqL K H a (ns.map V.int)) : spV K false [true] M [.ref a] H (fun v _ => v = .bl true) fun _ _ _ => False := by
  refine ⟨fun _ => none, _, _, (fun b o e => nomatch e), .lent (show Op K _ H (.ref a) (.list (ns.map PyData.int)) from ⟨a, _, rfl, hS, dpAll_ints ns⟩) .nil, h, fun v G' H' _ r => ?_⟩
  unfold Res at r
  rw [if_neg Bool.false_ne_true] at r
  cases r
  rfl
theorem cal_none (F : FnP K x st f fd) (hf : mg x = some (.ref f)) (hl : ms.length = ps.length) (k : Nat)
    (h : ∀ (kV doc pm : Value) (an : Option Addr) (cdv ct : Value) (us : List Value), us.length = ps.length → bindArgs (PySem.W.fnOf x x (defArgs st) (defBody st) (defScope st) .none kV doc pm an cdv ct) ⟨us, []⟩ = pure (ps.zip us)) :
    Cal P w K mg base x ps k (spV K m ms fun _ => none) := cal_mk F (fn_none hl) hf h
end
section
variable {α : Type} {A B : List Value → α}
theorem by0 (h : A [] = B []) : ∀ us : List Value, us.length = 0 → A us = B us := fun us hl => match us, hl with | [], _ => h
theorem by1 (h : ∀ a, A [a] = B [a]) : ∀ us : List Value, us.length = 1 → A us = B us := fun us hl => match us, hl with | [a], _ => h a
theorem by2 (h : ∀ a b, A [a, b] = B [a, b]) : ∀ us : List Value, us.length = 2 → A us = B us := fun us hl => match us, hl with | [a, b], _ => h a b
theorem by3 (h : ∀ a b c, A [a, b, c] = B [a, b, c]) : ∀ us : List Value, us.length = 3 → A us = B us := fun us hl => match us, hl with | [a, b, c], _ => h a b c
theorem by4 (h : ∀ a b c d, A [a, b, c, d] = B [a, b, c, d]) : ∀ us : List Value, us.length = 4 → A us = B us := fun us hl => match us, hl with | [a, b, c, d], _ => h a b c d
theorem by5 (h : ∀ a b c d e, A [a, b, c, d, e] = B [a, b, c, d, e]) : ∀ us : List Value, us.length = 5 → A us = B us := fun us hl => match us, hl with | [a, b, c, d, e], _ => h a b c d e
theorem by6 (h : ∀ a b c d e f, A [a, b, c, d, e, f] = B [a, b, c, d, e, f]) : ∀ us : List Value, us.length = 6 → A us = B us := fun us hl => match us, hl with | [a, b, c, d, e, f], _ => h a b c d e f
end
end VL

set_option Elab.async false
set_option linter.all false
set_option maxRecDepth 100000
set_option maxHeartbeats 4000000
set_option exponentiation.threshold 5000
namespace VL
open PySem L2

/-! ### plain data as data -/
abbrev Pt := Int × Int
def pt (p : Pt) : D := .tuple [.int p.1, .int p.2]
abbrev pts (l : List Pt) : D := .list (l.map pt)
abbrev nums (l : List Int) : D := .list (l.map PyData.int)

/-! ### guards -/
/-- small enough for products -/
def Sm (i : Int) : Prop := i.natAbs < big
instance (i : Int) : Decidable (Sm i) := Nat.decLt _ _
theorem sm_of {i : Int} (h1 : -1000000000000000000000000000000000000000000000000000000000000 ≤ i) (h2 : i ≤ 1000000000000000000000000000000000000000000000000000000000000) : Sm i := by
  have e : i.natAbs ≤ 1000000000000000000000000000000000000000000000000000000000000 := by omega
  refine Nat.lt_of_le_of_lt e ?_
  unfold big
  decide +kernel
theorem sm_mul {i j : Int} (hi : Sm i) (hj : Sm j) : cMul i j = true := by
  unfold cMul
  rw [decide_eq_true (show i.natAbs < big from hi), decide_eq_true (show j.natAbs < big from hj)]
  rfl
theorem mul_ok {i j : Int} (hi : Sm i) (hj : Sm j) : kMul (.int i) (.int j) = some (.int (i * j)) := by
  show (if cMul i j = true then _ else _) = _
  rw [if_pos (sm_mul hi hj)]
theorem div_ok {i j : Int} (h : 0 < j) (hj : Sm j) : kDiv (.int i) (.int j) = some (.int (i / j)) := by
  show (if cDiv i j = true then _ else _) = _
  rw [if_pos]
  unfold cDiv
  rw [decide_eq_true h, decide_eq_true (show j.natAbs < big from hj)]
  rfl
theorem mod_ok {i j : Int} (h : 0 < j) : kMod (.int i) (.int j) = some (.int (i % j)) := by
  show (if cMod i j = true then _ else _) = _
  rw [if_pos]
  exact decide_eq_true h
theorem add_ok (i j : Int) : kAdd (.int i) (.int j) = some (.int (i + j)) := rfl
theorem sub_ok (i j : Int) : kSub (.int i) (.int j) = some (.int (i - j)) := rfl
theorem neg_ok (i : Int) : kNeg (.int i) = some (.int (-i)) := rfl
theorem lt_ok (i j : Int) : cLt (.int i) (.int j) = some (decide (i < j)) := rfl
theorem le_ok (i j : Int) : cLe (.int i) (.int j) = some (decide (i ≤ j)) := rfl
theorem gt_ok (i j : Int) : cGt (.int i) (.int j) = some (decide (j < i)) := rfl
theorem ge_ok (i j : Int) : cGe (.int i) (.int j) = some (decide (j ≤ i)) := rfl
theorem eq_ok (i j : Int) : cEq (.int i) (.int j) = some (decide (i = j)) := by
  unfold cEq
  rw [if_pos (by simp [PyData.depth])]
  rfl
theorem ne_ok (i j : Int) : cNe (.int i) (.int j) = some (!decide (i = j)) := by
  unfold cNe
  rw [if_pos (by simp [PyData.depth])]
  rfl
theorem isB_ok (a b : Bool) : cIsB (.bool a) (.bool b) = some (decide (a = b)) := rfl
theorem nisB_ok (a b : Bool) : cNisB (.bool a) (.bool b) = some (!decide (a = b)) := rfl
theorem abs_ok (i : Int) : kAbs (.int i) = some (.int (i.natAbs : Nat)) := by
  show some (PyData.int (if i < 0 then -i else i)) = _
  congr 2
  split <;> omega
theorem max2_ok (i j : Int) : k2Max (.int i) (.int j) = some (.int (max i j)) := by
  show some (PyData.int (if j > i then j else i)) = _
  congr 2
  split <;> omega
theorem min2_ok (i j : Int) : k2Min (.int i) (.int j) = some (.int (min i j)) := by
  show some (PyData.int (if j < i then j else i)) = _
  congr 2
  split <;> omega
theorem len_ok (ds : List D) : kLen (.list ds) = some (.int (ds.length : Nat)) := rfl
theorem lenT_ok (ds : List D) : kLen (.tuple ds) = some (.int (ds.length : Nat)) := rfl
theorem toList_ok (ds : List D) : kList (.list ds) = some ds := rfl
theorem toInt_ok (i : Int) : kInt (.int i) = some (.int i) := rfl
theorem rev_ok (ds : List D) : kRev (.list ds) = some ds.reverse := rfl

/-! ### equality of plain data -/
theorem eqv_pt (p q : Pt) : PyData.eqv (pt p) (pt q) = decide (p = q) := by
  obtain ⟨a, b⟩ := p
  obtain ⟨c, d⟩ := q
  show ((a == c) && ((b == d) && true)) = _
  rw [Bool.and_true, Bool.eq_iff_iff]
  simp
theorem eqvAll_map {α : Type} [DecidableEq α] (enc : α → D) (h : ∀ a b, PyData.eqv (enc a) (enc b) = decide (a = b)) : ∀ xs ys : List α, PyData.eqvAll (xs.map enc) (ys.map enc) = decide (xs = ys)
  | [], [] => by simp [PyData.eqvAll]
  | [], y :: ys => by simp [PyData.eqvAll]
  | x :: xs, [] => by simp [PyData.eqvAll]
  | x :: xs, y :: ys => by
    show (PyData.eqv (enc x) (enc y) && PyData.eqvAll (xs.map enc) (ys.map enc)) = _
    rw [h, eqvAll_map enc h xs ys, Bool.eq_iff_iff]
    simp
theorem eqv_pts (xs ys : List Pt) : PyData.eqv (pts xs) (pts ys) = decide (xs = ys) := by
  show PyData.eqvAll (xs.map pt) (ys.map pt) = _
  exact eqvAll_map pt eqv_pt xs ys
theorem eqv_nums (xs ys : List Int) : PyData.eqv (nums xs) (nums ys) = decide (xs = ys) := by
  show PyData.eqvAll (xs.map PyData.int) (ys.map PyData.int) = _
  refine eqvAll_map _ (fun a b => ?_) xs ys
  show (a == b) = _
  rfl
theorem depthAll_le {n : Nat} : ∀ ds : List D, (∀ d ∈ ds, d.depth ≤ n) → PyData.depthAll ds ≤ n
  | [], _ => Nat.zero_le _
  | d :: ds, h => by
    show max d.depth (PyData.depthAll ds) ≤ n
    have h1 := h d List.mem_cons_self
    have h2 := depthAll_le ds fun e he => h e (List.mem_cons_of_mem _ he)
    omega
theorem depth_pt (p : Pt) : (pt p).depth = 1 := rfl
theorem depth_pts (xs : List Pt) : (pts xs).depth ≤ 2 := by
  show PyData.depthAll (xs.map pt) + 1 ≤ 2
  have := depthAll_le (n := 1) (xs.map pt) fun d hd => by
    obtain ⟨p, _, rfl⟩ := List.mem_map.mp hd
    exact Nat.le_refl _
  omega
theorem depth_nums (xs : List Int) : (nums xs).depth ≤ 1 := by
  show PyData.depthAll (xs.map PyData.int) + 1 ≤ 1
  have := depthAll_le (n := 0) (xs.map PyData.int) fun d hd => by
    obtain ⟨p, _, rfl⟩ := List.mem_map.mp hd
    exact Nat.le_refl _
  omega
theorem eq_of {x y : D} (h : min x.depth y.depth ≤ 64) : cEq x y = some (PyData.eqv x y) := by
  unfold cEq; rw [if_pos h]
theorem ne_of {x y : D} (h : min x.depth y.depth ≤ 64) : cNe x y = some (!PyData.eqv x y) := by
  unfold cNe; rw [if_pos h]
theorem eqPt_ok (p q : Pt) : cEq (pt p) (pt q) = some (decide (p = q)) := by
  rw [eq_of (by rw [depth_pt, depth_pt]; decide), eqv_pt]
theorem nePt_ok (p q : Pt) : cNe (pt p) (pt q) = some (!decide (p = q)) := by
  rw [ne_of (by rw [depth_pt, depth_pt]; decide), eqv_pt]
theorem eqPts_ok (p q : List Pt) : cEq (pts p) (pts q) = some (decide (p = q)) := by
  rw [eq_of (by have := depth_pts p; omega), eqv_pts]
theorem nePts_ok (p q : List Pt) : cNe (pts p) (pts q) = some (!decide (p = q)) := by
  rw [ne_of (by have := depth_pts p; omega), eqv_pts]
theorem eqInts_ok (p q : List Int) : cEq (nums p) (nums q) = some (decide (p = q)) := by
  rw [eq_of (by have := depth_nums p; omega), eqv_nums]
theorem neInts_ok (p q : List Int) : cNe (nums p) (nums q) = some (!decide (p = q)) := by
  rw [ne_of (by have := depth_nums p; omega), eqv_nums]

/-! ### environments, places -/
theorem mkEn_f (ms : List Bool) (d : D) (ds : List D) : mkEn (false :: ms) (d :: ds) = some (.v d) :: mkEn ms ds := rfl
theorem mkEn_t (ms : List Bool) (d : D) (ds : List D) : mkEn (true :: ms) (d :: ds) = some (.b d) :: mkEn ms ds := rfl
theorem mkEn_0 : mkEn [] [] = [] := rfl
theorem atI_at {α : Type} {xs : List α} {j : Nat} {z : Int} {v : α} (e : z = (j : Int)) (h : xs[j]? = some v) : atI xs z = some v := by
  subst e; exact atI_nat h
theorem ixL_ok {ds : List D} {z : Int} {d : D} (h : atI ds z = some d) : kIx (.list ds) (.int z) = some d := h
theorem ix_t0 (a : D) (r : List D) : kIx (.tuple (a :: r)) (.int 0) = some a := atI_nat (j := 0) rfl
theorem ix_t1 (a b : D) (r : List D) : kIx (.tuple (a :: b :: r)) (.int 1) = some b := atI_nat (j := 1) rfl
theorem ix_t2 (a b c : D) (r : List D) : kIx (.tuple (a :: b :: c :: r)) (.int 2) = some c := atI_nat (j := 2) rfl
theorem ix_t3 (a b c d : D) (r : List D) : kIx (.tuple (a :: b :: c :: d :: r)) (.int 3) = some d := atI_nat (j := 3) rfl
theorem ix_t4 (a b c d e : D) (r : List D) : kIx (.tuple (a :: b :: c :: d :: e :: r)) (.int 4) = some e := atI_nat (j := 4) rfl
theorem ix_t5 (a b c d e f : D) (r : List D) : kIx (.tuple (a :: b :: c :: d :: e :: f :: r)) (.int 5) = some f := atI_nat (j := 5) rfl
theorem ix_l0 (a : D) (r : List D) : kIx (.list (a :: r)) (.int 0) = some a := atI_nat (j := 0) rfl
theorem ix_l1 (a b : D) (r : List D) : kIx (.list (a :: b :: r)) (.int 1) = some b := atI_nat (j := 1) rfl
theorem ix_l2 (a b c : D) (r : List D) : kIx (.list (a :: b :: c :: r)) (.int 2) = some c := atI_nat (j := 2) rfl
theorem eq2_ok (a b c d : Int) : cEq (.tuple [.int a, .int b]) (.tuple [.int c, .int d]) = some (decide (a = c) && decide (b = d)) := by
  have := eqPt_ok (a, b) (c, d)
  unfold pt at this
  rw [this]
  congr 1
  rw [Bool.eq_iff_iff]
  simp
theorem ne2_ok (a b c d : Int) : cNe (.tuple [.int a, .int b]) (.tuple [.int c, .int d]) = some (!(decide (a = c) && decide (b = d))) := by
  have := nePt_ok (a, b) (c, d)
  unfold pt at this
  rw [this]
  congr 2
  rw [Bool.eq_iff_iff]
  simp
theorem ix_p0 (p : Pt) : kIx (pt p) (.int 0) = some (.int p.1) := ix_t0 _ _
theorem ix_p1 (p : Pt) : kIx (pt p) (.int 1) = some (.int p.2) := ix_t1 _ _ _
/-- an item of a list of plain data, any sign of the place -/
theorem ix_map {α : Type} (enc : α → D) {xs : List α} {z : Int} {x : α} (h : atI xs z = some x) : kIx (.list (xs.map enc)) (.int z) = some (enc x) := by
  show atI (xs.map enc) z = _
  unfold atI at h ⊢
  rw [List.length_map]
  cases e : ixN xs.length z with
  | none => rw [e] at h; cases h
  | some j =>
    rw [e] at h
    show (xs.map enc)[j]? = _
    rw [List.getElem?_map, show xs[j]? = some x from h]
    rfl
theorem atI_lt {α : Type} {xs : List α} {j : Nat} (h : j < xs.length) : atI xs (j : Int) = some xs[j] := atI_nat (List.getElem?_eq_getElem h)
theorem atI_neg {α : Type} {xs : List α} {j : Nat} (h : j < xs.length) (z : Int) (hz : z = (j : Int) - xs.length) : atI xs z = some xs[j] := by
  unfold atI ixN
  rw [if_neg (by omega), if_pos (by omega)]
  have e : (z + (xs.length : Int)).toNat = j := by omega
  rw [e]
  exact List.getElem?_eq_getElem h

/-! ### loops -/
section
variable {α : Type} {T : Tg} {body : DS}
/-- a loop without an early end: the state is a function of what has been walked -/
theorem goFor_pre (enc : α → D) (xs : List α) (S : List α → En) (h : ∀ done x rest, xs = done ++ x :: rest → ∃ e1, setT T (enc x) (S done) = some e1 ∧ (body e1 = some (.nx (S (done ++ [x]))) ∨ body e1 = some (.ct (S (done ++ [x]))))) :
    goFor T body (xs.map enc) (S []) = some (.nx (S xs)) := by
  have go : ∀ rest done, xs = done ++ rest → goFor T body (rest.map enc) (S done) = some (.nx (S xs)) := by
    intro rest
    induction rest with
    | nil => intro done e; rw [e, List.append_nil]; rfl
    | cons x rest ih =>
      intro done e
      obtain ⟨e1, h1, h2⟩ := h done x rest e
      have e2 := ih (done ++ [x]) (by rw [e]; simp)
      rw [List.map_cons]
      unfold goFor
      simp only [h1]
      rcases h2 with h2 | h2 <;> simp only [h2] <;> exact e2
  exact go xs [] rfl
/-- a loop that looks for a reason to go -/
theorem goFor_look (enc : α → D) (xs : List α) (E : En) (good : α → Bool) (r : D) (h : ∀ x ∈ xs, ∃ e1, setT T (enc x) E = some e1 ∧ body e1 = if good x = true then some (.nx E) else some (.rt r)) :
    goFor T body (xs.map enc) E = if xs.all good = true then some (.nx E) else some (.rt r) := by
  induction xs with
  | nil => rfl
  | cons x xs ih =>
    obtain ⟨e1, h1, h2⟩ := h x List.mem_cons_self
    have e2 := ih fun y hy => h y (List.mem_cons_of_mem _ hy)
    rw [List.map_cons]
    unfold goFor
    simp only [h1, h2]
    cases g : good x with
    | true => simp only [List.all_cons, g, Bool.true_and, if_true]; exact e2
    | false => simp [List.all_cons, g]
theorem goLc_map {tt : DT} {fe : DE} {env : En} (enc : α → D) (g : α → D) (xs : List α) (h : ∀ x ∈ xs, ∃ e1, setT T (enc x) env = some e1 ∧ tt e1 = some true ∧ fe e1 = some (g x)) : goLc T tt fe env (xs.map enc) = some (xs.map g) := by
  induction xs with
  | nil => rfl
  | cons x xs ih =>
    obtain ⟨e1, h1, h2, h3⟩ := h x List.mem_cons_self
    rw [List.map_cons]
    unfold goLc
    simp only [h1, h2, h3, ih fun y hy => h y (List.mem_cons_of_mem _ hy), List.map_cons]
theorem goLc_filter {tt : DT} {fe : DE} {env : En} (enc : α → D) (t : α → Bool) (g : α → D) (xs : List α) (h : ∀ x ∈ xs, ∃ e1, setT T (enc x) env = some e1 ∧ tt e1 = some (t x) ∧ (t x = true → fe e1 = some (g x))) : goLc T tt fe env (xs.map enc) = some ((xs.filter t).map g) := by
  induction xs with
  | nil => rfl
  | cons x xs ih =>
    obtain ⟨e1, h1, h2, h3⟩ := h x List.mem_cons_self
    have e2 := ih fun y hy => h y (List.mem_cons_of_mem _ hy)
    rw [List.map_cons]
    unfold goLc
    cases c : t x with
    | false => rw [c] at h2; simp only [h1, h2, e2, List.filter_cons, c]; rfl
    | true => rw [c] at h2; simp only [h1, h2, h3 c, e2, List.filter_cons, c, if_true, List.map_cons]
end
/-- while, by a state that goes on n turns -/
theorem goW_run {σ : Type} {c : DT} {body : DS} (E : σ → En) (st : σ → σ) (more : σ → Bool) (hc : ∀ s, c (E s) = some (more s)) (hb : ∀ s, more s = true → body (E s) = some (.nx (E (st s)))) :
    ∀ (n m : Nat) (s : σ), (∀ k, k < n → more (Nat.repeat (fun s => st s) k s) = true) → more (Nat.repeat (fun s => st s) n s) = false → n < m → goW c body m (E s) = some (.nx (E (Nat.repeat (fun s => st s) n s))) := by
  intro n
  induction n with
  | zero =>
    intro m s _ h2 hm
    obtain ⟨m, rfl⟩ : ∃ k, m = k + 1 := ⟨m - 1, by omega⟩
    unfold goW
    simp only [hc, show more s = false from h2]
    rfl
  | succ n ih =>
    intro m s h1 h2 hm
    obtain ⟨m, rfl⟩ : ∃ k, m = k + 1 := ⟨m - 1, by omega⟩
    have rp : ∀ k, Nat.repeat (fun s => st s) k (st s) = Nat.repeat (fun s => st s) (k + 1) s := by
      intro k
      induction k with
      | zero => rfl
      | succ k ih => show st _ = st _; rw [ih]
    have h0 : more s = true := h1 0 (by omega)
    unfold goW
    simp only [hc, h0, hb s h0]
    have := ih m (st s) (fun k hk => by rw [rp]; exact h1 (k + 1) (by omega)) (by rw [rp]; exact h2) (by omega)
    rw [this, rp]
/-- while, by an invariant and a measure below the bound: how it ends -/
theorem goW_inv {σ : Type} {c : DT} {body : DS} (E : σ → En) (I : σ → Prop) (μ : σ → Nat) (st : σ → σ) (more : σ → Bool) (hc : ∀ s, I s → c (E s) = some (more s)) (hb : ∀ s, I s → more s = true → body (E s) = some (.nx (E (st s))) ∧ I (st s) ∧ μ (st s) < μ s) :
    ∀ (m : Nat) (s : σ), I s → μ s < m → ∃ s', I s' ∧ more s' = false ∧ goW c body m (E s) = some (.nx (E s')) := by
  intro m
  induction m with
  | zero => intro s _ h; omega
  | succ m ih =>
    intro s hI hm
    unfold goW
    simp only [hc s hI]
    cases h0 : more s with
    | false => exact ⟨s, hI, h0, rfl⟩
    | true =>
      obtain ⟨h1, h2, h3⟩ := hb s hI h0
      simp only [h1]
      exact ih (st s) h2 (by omega)
theorem fuel_big {n : Nat} (h : n < 1000000000000000000000000000000000000000000000000000000000000) : n < fuel := by
  refine Nat.lt_of_lt_of_le h ?_
  unfold fuel
  decide +kernel
theorem sizeD_eq : sizeD = 16777216 := by
  show (2 ^ 24 : Nat) = _
  rfl
theorem rgD_eq (a b : Int) : rgD a b = (List.range (b - a).toNat).map fun (i : Nat) => PyData.int (a + (i : Nat)) := rfl
theorem rg0 (n : Nat) : rgD 0 (n : Int) = (List.range n).map fun (i : Nat) => PyData.int (i : Nat) := by
  rw [rgD_eq]
  have e : ((n : Int) - 0).toNat = n := by omega
  rw [e]
  congr 1
  funext i
  rw [Int.zero_add]
theorem cR2_of {i j : Int} (h1 : -4611686018427387904 < i) (h2 : i < 4611686018427387904) (h3 : -4611686018427387904 < j) (h4 : j < 4611686018427387904) : cR2 i j = true := by
  unfold cR2
  rw [decide_eq_true (show i.natAbs < 4611686018427387904 by omega), decide_eq_true (show j.natAbs < 4611686018427387904 by omega)]
  rfl
theorem kR1_ok {n : Nat} (h : n < 4611686018427387904) : kR1 (.int (n : Nat)) = some ((List.range n).map fun (i : Nat) => PyData.int (i : Nat)) := by
  show (if cR2 0 (n : Int) = true then some (rgD 0 (n : Int)) else none) = _
  rw [if_pos (cR2_of (by omega) (by omega) (by omega) (by omega)), rg0]
theorem kR1_int {z : Int} (h0 : -4611686018427387904 < z) (h : z < 4611686018427387904) : kR1 (.int z) = some ((List.range z.toNat).map fun (i : Nat) => PyData.int (i : Nat)) := by
  show (if cR2 0 z = true then some (rgD 0 z) else none) = _
  rw [if_pos (cR2_of (by omega) (by omega) h0 h)]
  show some ((List.range (z - 0).toNat).map fun (i : Nat) => PyData.int (0 + (i : Nat))) = _
  rw [Int.sub_zero]
  congr 2
  funext i
  rw [Int.zero_add]
theorem kR2_ok {a b : Int} (h1 : -4611686018427387904 < a) (h2 : a < 4611686018427387904) (h3 : -4611686018427387904 < b) (h4 : b < 4611686018427387904) : kR2 (.int a) (.int b) = some ((List.range (b - a).toNat).map fun (i : Nat) => PyData.int (a + (i : Nat))) := by
  show (if cR2 a b = true then some (rgD a b) else none) = _
  rw [if_pos (cR2_of h1 h2 h3 h4)]
  rfl
end VL
namespace VL
open PySem L2
section
variable {T : Tg} {body : DS}
/-- a loop over range(n): the state is a function of the turn -/
theorem goFor_rng (n : Nat) (lo : Int) (S : Nat → En) (h : ∀ k, k < n → ∃ e1, setT T (.int (lo + (k : Nat))) (S k) = some e1 ∧ (body e1 = some (.nx (S (k + 1))) ∨ body e1 = some (.ct (S (k + 1))))) :
    goFor T body ((List.range n).map fun (i : Nat) => PyData.int (lo + (i : Nat))) (S 0) = some (.nx (S n)) := by
  have go : ∀ m k, k + m = n → goFor T body ((List.range' k m).map fun (i : Nat) => PyData.int (lo + (i : Nat))) (S k) = some (.nx (S n)) := by
    intro m
    induction m with
    | zero => intro k e; have : k = n := by omega
              subst this; rfl
    | succ m ih =>
      intro k e
      obtain ⟨e1, h1, h2⟩ := h k (by omega)
      have e2 := ih (k + 1) (by omega)
      rw [List.range'_succ, List.map_cons]
      unfold goFor
      simp only [h1]
      rcases h2 with h2 | h2 <;> simp only [h2] <;> exact e2
  rw [List.range_eq_range']
  exact go n 0 (by omega)
theorem goFor_rng0 (n : Nat) (S : Nat → En) (h : ∀ k, k < n → ∃ e1, setT T (.int (k : Nat)) (S k) = some e1 ∧ (body e1 = some (.nx (S (k + 1))) ∨ body e1 = some (.ct (S (k + 1))))) :
    goFor T body ((List.range n).map fun (i : Nat) => PyData.int (i : Nat)) (S 0) = some (.nx (S n)) := by
  have e : (fun (i : Nat) => PyData.int (i : Nat)) = fun (i : Nat) => PyData.int (0 + (i : Nat)) := by funext i; rw [Int.zero_add]
  rw [e]
  exact goFor_rng n 0 S fun k hk => by rw [Int.zero_add]; exact h k hk
end
end VL
namespace VL
open PySem L2
/-- a loop by an invariant -/
theorem goFor_inv {α : Type} {T : Tg} {body : DS} (enc : α → D) (I : Nat → En → Prop) : ∀ (xs : List α) (k0 : Nat) (_ : ∀ k x env, xs[k]? = some x → I (k0 + k) env → ∃ e1 e2, setT T (enc x) env = some e1 ∧ (body e1 = some (.nx e2) ∨ body e1 = some (.ct e2)) ∧ I (k0 + k + 1) e2) (env : En) (_ : I k0 env),
    ∃ e', goFor T body (xs.map enc) env = some (.nx e') ∧ I (k0 + xs.length) e'
  | [], k0, _, env, h0 => ⟨env, rfl, h0⟩
  | x :: xs, k0, h, env, h0 => by
    obtain ⟨e1, e2, h1, h2, h3⟩ := h 0 x env rfl h0
    obtain ⟨e', h4, h5⟩ := goFor_inv enc I xs (k0 + 1) (fun k y env hy hI => by
      have := h (k + 1) y env hy (by rw [show k0 + (k + 1) = k0 + 1 + k by omega]; exact hI)
      rw [show k0 + (k + 1) + 1 = k0 + 1 + k + 1 by omega] at this
      exact this) e2 h3
    refine ⟨e', ?_, by rw [List.length_cons, show k0 + (xs.length + 1) = k0 + 1 + xs.length by omega]; exact h5⟩
    rw [List.map_cons]
    unfold goFor
    simp only [h1]
    rcases h2 with h2 | h2 <;> simp only [h2] <;> exact h4
theorem cut_map {α β : Type} (f : α → β) (xs : List α) (lo hi : Option Int) : cutD (xs.map f) lo hi = (cutD xs lo hi).map f := by
  unfold cutD
  rw [List.length_map, List.map_take, List.map_drop]
/-- xs[:n] -/
theorem cut_to {α : Type} (xs : List α) (n : Nat) : cutD xs none (some (n : Int)) = xs.take n := by
  unfold cutD
  rw [HT.sIx_none, HT.sIx_nat, List.drop_zero, Nat.sub_zero, List.take_eq_take_iff]
  omega
/-- xs[n:] -/
theorem cut_from {α : Type} (xs : List α) (n : Nat) : cutD xs (some (n : Int)) none = xs.drop n := by
  unfold cutD
  rw [HT.sIx_none, HT.sIx_nat]
  apply List.ext_getElem?
  intro i
  rw [List.getElem?_take, List.getElem?_drop, List.getElem?_drop]
  by_cases h : n ≤ xs.length
  · rw [Nat.min_eq_left h]
    split
    · rfl
    · rw [List.getElem?_eq_none (by omega)]
  · rw [Nat.min_eq_right (by omega)]
    split
    · omega
    · rw [List.getElem?_eq_none (by omega)]
/-- xs[a:b] -/
theorem cut_mid {α : Type} (xs : List α) (a b : Nat) : cutD xs (some (a : Int)) (some (b : Int)) = (xs.take b).drop a := by
  unfold cutD
  rw [HT.sIx_nat, HT.sIx_nat]
  apply List.ext_getElem?
  intro i
  rw [List.getElem?_take, List.getElem?_drop, List.getElem?_drop, List.getElem?_take]
  by_cases h : min a xs.length + i < xs.length
  · have e : min a xs.length = a := by omega
    rw [e]
    by_cases c : a + i < b
    · rw [if_pos (by omega), if_pos c]
    · rw [if_neg (by omega), if_neg c]
  · rw [List.getElem?_eq_none (by omega)]
    split <;> split <;> first | rfl | (rw [List.getElem?_eq_none (by omega)])
end VL

set_option linter.all false
set_option maxRecDepth 100000
set_option maxHeartbeats 4000000
namespace Tot
/-! ### sums and counts over 0 .. n - 1 -/
def sm (f : Nat → Nat) : Nat → Nat
  | 0 => 0
  | n + 1 => sm f n + f n
def ct (p : Nat → Bool) (n : Nat) : Nat := sm (fun i => (p i).toNat) n
theorem toNat_le (b : Bool) : b.toNat ≤ 1 := by cases b <;> decide
theorem sm_congr {f g : Nat → Nat} : ∀ {n : Nat}, (∀ i, i < n → f i = g i) → sm f n = sm g n
  | 0, _ => rfl
  | n + 1, h => by unfold sm; rw [sm_congr fun i hi => h i (by omega), h n (by omega)]
theorem ct_congr {p q : Nat → Bool} {n : Nat} (h : ∀ i, i < n → p i = q i) : ct p n = ct q n := sm_congr fun i hi => by rw [h i hi]
theorem sm_add (f g : Nat → Nat) : ∀ n, sm (fun i => f i + g i) n = sm f n + sm g n
  | 0 => rfl
  | n + 1 => by unfold sm; rw [sm_add f g n]; omega
theorem sm_zero : ∀ n, sm (fun _ => 0) n = 0
  | 0 => rfl
  | n + 1 => by unfold sm; rw [sm_zero n]
theorem sm_app (f : Nat → Nat) (m : Nat) : ∀ n, sm f (m + n) = sm f m + sm (fun i => f (m + i)) n
  | 0 => rfl
  | n + 1 => by
    show sm f (m + n) + f (m + n) = sm f m + (sm (fun i => f (m + i)) n + f (m + n))
    rw [sm_app f m n]; omega
theorem sm_swap (f : Nat → Nat → Nat) (m : Nat) : ∀ n, sm (fun i => sm (fun j => f i j) m) n = sm (fun j => sm (fun i => f i j) n) m
  | 0 => by
    show 0 = sm (fun _ => 0) m
    rw [sm_zero]
  | n + 1 => by
    show sm (fun i => sm (fun j => f i j) m) n + sm (fun j => f n j) m = sm (fun j => sm (fun i => f i j) n + f n j) m
    rw [sm_swap f m n, ← sm_add]
theorem ct_le (p : Nat → Bool) : ∀ n, ct p n ≤ n
  | 0 => Nat.le_refl _
  | n + 1 => by
    have := ct_le p n
    have := toNat_le (p n)
    unfold ct at *
    unfold sm
    omega
theorem ct_all {p : Nat → Bool} : ∀ {n : Nat}, (∀ i, i < n → p i = true) → ct p n = n
  | 0, _ => rfl
  | n + 1, h => by
    have := ct_all (p := p) (n := n) fun i hi => h i (by omega)
    unfold ct at this ⊢
    unfold sm
    rw [this, h n (by omega)]
    rfl
theorem ct_lt {p : Nat → Bool} : ∀ {n i : Nat}, i < n → p i = false → ct p n < n
  | 0, _, h, _ => by omega
  | n + 1, i, h, hp => by
    have hle := ct_le p n
    by_cases e : i = n
    · subst e
      unfold ct at hle ⊢
      unfold sm
      rw [hp]
      show sm _ i + 0 < i + 1
      omega
    · have := ct_lt (p := p) (n := n) (i := i) (by omega) hp
      have := toNat_le (p n)
      unfold ct at *
      unfold sm
      omega
theorem ct_split (p q : Nat → Bool) (n : Nat) : ct p n = ct (fun i => p i && q i) n + ct (fun i => p i && !q i) n := by
  unfold ct
  rw [← sm_add]
  apply sm_congr
  intro i _
  cases h1 : p i <;> cases h2 : q i <;> simp [h1, h2]
/-- a sum over the multiples of l: the places l - 1, 2 l - 1, .. -/
theorem sm_mul (g : Nat → Nat) (l : Nat) (hl : 0 < l) (h : ∀ i, ¬ l ∣ i + 1 → g i = 0) : ∀ m, sm g (l * m) = sm (fun i => g (l * (i + 1) - 1)) m
  | 0 => by rw [Nat.mul_zero]; rfl
  | m + 1 => by
    rw [Nat.mul_succ, sm_app, sm_mul g l hl h m]
    show _ = sm (fun i => g (l * (i + 1) - 1)) m + g (l * (m + 1) - 1)
    congr 1
    obtain ⟨k, rfl⟩ : ∃ k, l = k + 1 := ⟨l - 1, by omega⟩
    show sm (fun i => g ((k + 1) * m + i)) k + g ((k + 1) * m + k) = _
    have z : sm (fun i => g ((k + 1) * m + i)) k = 0 := by
      rw [sm_congr (g := fun _ => 0) fun i hi => h _ fun hd => ?_, sm_zero]
      have h2 : (k + 1) ∣ (i + 1) := by
        have : (k + 1) * m + i + 1 = (k + 1) * m + (i + 1) := by omega
        rw [this] at hd
        exact (Nat.dvd_add_right (Nat.dvd_mul_right _ _)).mp hd
      have := Nat.le_of_dvd (by omega) h2
      omega
    rw [z, Nat.zero_add]
    congr 1
/-- periods -/
theorem ct_per (p : Nat → Bool) (m : Nat) (h : ∀ i, p (i + m) = p i) : ∀ k, ct p (m * k) = k * ct p m
  | 0 => by rw [Nat.mul_zero, Nat.zero_mul]; rfl
  | k + 1 => by
    have hk : ∀ k i, p (m * k + i) = p i := by
      intro k
      induction k with
      | zero => intro i; rw [Nat.mul_zero, Nat.zero_add]
      | succ k ih => intro i; rw [Nat.mul_succ, show m * k + m + i = (m * k + i) + m by omega, h, ih]
    have ih := ct_per p m h k
    unfold ct at ih ⊢
    rw [Nat.mul_succ, sm_app, ih, Nat.succ_mul]
    congr 1
    apply sm_congr
    intro i _
    rw [hk]
/-! ### what a sieve counts -/
/-- no d from 2 to k divides both -/
def cb (k j a : Nat) : Bool := (List.range (k + 1)).all fun d => !(decide (2 ≤ d) && decide (d ∣ a) && decide (d ∣ j))
theorem cb_iff {k j a : Nat} : cb k j a = true ↔ ∀ d, 2 ≤ d → d ≤ k → d ∣ a → ¬ d ∣ j := by
  unfold cb
  rw [List.all_eq_true]
  constructor
  · intro h d h1 h2 h3 h4
    have := h d (List.mem_range.mpr (by omega))
    simp [h1, h3, h4] at this
  · intro h d hd
    have hd' := List.mem_range.mp hd
    cases e : (decide (2 ≤ d) && decide (d ∣ a) && decide (d ∣ j)) with
    | false => rfl
    | true =>
      simp only [Bool.and_eq_true, decide_eq_true_eq] at e
      exact absurd e.2 (h d e.1.1 (by omega) e.1.2)
/-- the numbers from 1 to j that share no divisor up to k with j -/
def cnt (k j : Nat) : Nat := ct (fun i => cb k j (i + 1)) j
theorem cnt_one (j : Nat) : cnt 1 j = j := by
  unfold cnt
  exact ct_all fun i _ => cb_iff.mpr fun d h1 h2 => by omega
/-- k has no divisor but 1 and itself -/
def pr (k : Nat) : Prop := ∀ d, 2 ≤ d → d < k → ¬ d ∣ k
theorem cnt_self {k : Nat} (hk : 2 ≤ k) : cnt (k - 1) k = k ↔ pr k := by
  constructor
  · intro h d h1 h2 h3
    have hf : cb (k - 1) k (d - 1 + 1) = false := by
      cases e : cb (k - 1) k (d - 1 + 1) with
      | false => rfl
      | true =>
        rw [show d - 1 + 1 = d by omega] at e
        exact absurd h3 (cb_iff.mp e d h1 (by omega) (Nat.dvd_refl _))
    have := ct_lt (p := fun i => cb (k - 1) k (i + 1)) (n := k) (i := d - 1) (by omega) hf
    unfold cnt at h
    omega
  · intro h
    unfold cnt
    exact ct_all fun i _ => cb_iff.mpr fun d h1 h2 _ h4 => h d h1 (by omega) h4
theorem cb_same {k j a : Nat} (hk : 2 ≤ k) (h : k ∣ a → k ∣ j → ¬ pr k) : cb k j a = cb (k - 1) j a := by
  rw [Bool.eq_iff_iff, cb_iff, cb_iff]
  constructor
  · intro q d h1 h2 h3
    exact q d h1 (by omega) h3
  · intro q d h1 h2 h3 h4
    by_cases e : d = k
    · subst e
      apply h h3 h4
      intro e h5 h6 h7
      exact q e h5 (by omega) (Nat.dvd_trans h7 h3) (Nat.dvd_trans h7 h4)
    · exact q d h1 (by omega) h3 h4
theorem cnt_keep {k j : Nat} (hk : 2 ≤ k) (h : k ∣ j → ¬ pr k) : cnt k j = cnt (k - 1) j := by
  unfold cnt
  exact ct_congr fun i _ => cb_same hk fun _ => h
theorem pr_cop {k d : Nat} (hk : pr k) (h1 : 2 ≤ d) (h2 : d < k) : Nat.Coprime d k := by
  have hg : Nat.gcd d k ∣ k := Nat.gcd_dvd_right _ _
  have hl : Nat.gcd d k ≤ d := Nat.le_of_dvd (by omega) (Nat.gcd_dvd_left _ _)
  have hp : 0 < Nat.gcd d k := Nat.gcd_pos_of_pos_left _ (by omega)
  by_cases e : Nat.gcd d k = 1
  · exact e
  · exact absurd hg (hk _ (by omega) (by omega))
/-- a prime strikes out one k-th -/
theorem cnt_prime {k m : Nat} (hk : 2 ≤ k) (hp : pr k) : cnt (k - 1) (k * m) = k * ct (fun i => cb (k - 1) (k * m) (i + 1)) m ∧ cnt k (k * m) + ct (fun i => cb (k - 1) (k * m) (i + 1)) m = cnt (k - 1) (k * m) := by
  have per : ∀ i, cb (k - 1) (k * m) (i + m + 1) = cb (k - 1) (k * m) (i + 1) := by
    intro i
    rw [Bool.eq_iff_iff, cb_iff, cb_iff]
    have key : ∀ d, 2 ≤ d → d ≤ k - 1 → d ∣ k * m → d ∣ m := fun d h1 h2 h3 => Nat.Coprime.dvd_of_dvd_mul_left (pr_cop hp h1 (by omega)) h3
    constructor
    · intro q d h1 h2 h3 h4
      refine q d h1 h2 ?_ h4
      rw [show i + m + 1 = i + 1 + m by omega]
      exact Nat.dvd_add h3 (key d h1 h2 h4)
    · intro q d h1 h2 h3 h4
      refine q d h1 h2 ?_ h4
      rw [show i + m + 1 = i + 1 + m by omega] at h3
      exact (Nat.dvd_add_left (key d h1 h2 h4)).mp h3
  have h1 : cnt (k - 1) (k * m) = k * ct (fun i => cb (k - 1) (k * m) (i + 1)) m := by
    unfold cnt
    have := ct_per (fun i => cb (k - 1) (k * m) (i + 1)) m per k
    rw [Nat.mul_comm m k] at this
    exact this
  refine ⟨h1, ?_⟩
  have h2 := ct_split (fun i => cb (k - 1) (k * m) (i + 1)) (fun i => decide (k ∣ i + 1)) (k * m)
  have h3 : ct (fun i => cb (k - 1) (k * m) (i + 1) && !decide (k ∣ i + 1)) (k * m) = cnt k (k * m) := by
    unfold cnt
    apply ct_congr
    intro i _
    by_cases e : k ∣ i + 1
    · have : cb k (k * m) (i + 1) = false := by
        cases q : cb k (k * m) (i + 1) with
        | false => rfl
        | true => exact absurd (Nat.dvd_mul_right k m) (cb_iff.mp q k hk (Nat.le_refl _) e)
      rw [this]
      simp [e]
    · rw [cb_same hk (fun z => absurd z e)]
      simp [e]
  have h4 : ct (fun i => cb (k - 1) (k * m) (i + 1) && decide (k ∣ i + 1)) (k * m) = ct (fun i => cb (k - 1) (k * m) (i + 1)) m := by
    unfold ct
    rw [sm_mul _ k (by omega) (fun i hi => by simp [hi])]
    apply sm_congr
    intro i _
    have e0 : k * (i + 1) - 1 + 1 = k * (i + 1) := by
      have : 0 < k * (i + 1) := Nat.mul_pos (by omega) (by omega)
      omega
    dsimp only
    rw [e0]
    have e1 : cb (k - 1) (k * m) (k * (i + 1)) = cb (k - 1) (k * m) (i + 1) := by
      rw [Bool.eq_iff_iff, cb_iff, cb_iff]
      constructor
      · intro q d h1 h2 h3
        exact q d h1 h2 (Nat.dvd_trans h3 (Nat.dvd_mul_left _ _))
      · intro q d h1 h2 h3
        exact q d h1 h2 (Nat.Coprime.dvd_of_dvd_mul_left (pr_cop hp h1 (by omega)) h3)
    rw [e1]
    simp [Nat.dvd_mul_right]
  rw [h3, h4] at h2
  have : cnt (k - 1) (k * m) = ct (fun i => cb (k - 1) (k * m) (i + 1)) (k * m) := rfl
  omega
theorem cnt_strike {k j : Nat} (hk : 2 ≤ k) (hp : pr k) (hj : k ∣ j) : cnt k j + cnt (k - 1) j / k = cnt (k - 1) j := by
  obtain ⟨m, rfl⟩ := hj
  obtain ⟨h1, h2⟩ := cnt_prime (m := m) hk hp
  rw [h1, Nat.mul_div_cancel_left _ (by omega), ← h1]
  exact h2
/-! ### Euler's numbers -/
def tot (j : Nat) : Nat := ct (fun i => decide (Nat.gcd (i + 1) j = 1)) j
theorem cnt_tot {k j : Nat} (h : j ≤ k) : cnt k j = tot j := by
  unfold cnt tot
  apply ct_congr
  intro i hi
  rw [Bool.eq_iff_iff, cb_iff, decide_eq_true_eq]
  constructor
  · intro q
    have hp : 0 < Nat.gcd (i + 1) j := Nat.gcd_pos_of_pos_left _ (by omega)
    have hl : Nat.gcd (i + 1) j ≤ i + 1 := Nat.le_of_dvd (by omega) (Nat.gcd_dvd_left _ _)
    by_cases e : Nat.gcd (i + 1) j = 1
    · exact e
    · exact absurd (Nat.gcd_dvd_right _ _) (q _ (by omega) (by omega) (Nat.gcd_dvd_left _ _))
  · intro q d h1 _ h3 h4
    have := Nat.le_of_dvd (by omega) (Nat.dvd_gcd h3 h4)
    omega
/-- the numbers from 1 to n by what they share with n -/
theorem gcd_class (n l : Nat) (hl : 0 < l) (hd : l ∣ n) : ct (fun i => decide (Nat.gcd (i + 1) n = l)) n = tot (n / l) := by
  obtain ⟨m, rfl⟩ := hd
  rw [Nat.mul_div_cancel_left _ hl]
  unfold ct tot
  rw [sm_mul _ l hl (fun i hi => by
    have : ¬ Nat.gcd (i + 1) (l * m) = l := fun z => hi (by
      have := Nat.gcd_dvd_left (i + 1) (l * m)
      rwa [z] at this)
    simp [this])]
  apply sm_congr
  intro i _
  have e0 : l * (i + 1) - 1 + 1 = l * (i + 1) := by
    have : 0 < l * (i + 1) := Nat.mul_pos hl (by omega)
    omega
  dsimp only
  rw [e0, Nat.gcd_mul_left]
  have e1 : (l * Nat.gcd (i + 1) m = l) ↔ Nat.gcd (i + 1) m = 1 := by
    constructor
    · intro h
      have : l * Nat.gcd (i + 1) m = l * 1 := by omega
      exact Nat.eq_of_mul_eq_mul_left hl this
    · intro h; rw [h, Nat.mul_one]
  rw [show decide (l * Nat.gcd (i + 1) m = l) = decide (Nat.gcd (i + 1) m = 1) from by rw [decide_eq_decide]; exact e1]
theorem one_place (n g : Nat) (h1 : 1 ≤ g) (h2 : g ≤ n) : sm (fun l => if g = l + 1 then 1 else 0) n = 1 := by
  induction n with
  | zero => omega
  | succ n ih =>
    unfold sm
    by_cases e : g = n + 1
    · rw [if_pos e, sm_congr (g := fun _ => 0) fun i hi => if_neg (by omega), sm_zero]
    · rw [if_neg e, ih (by omega)]
theorem tot_sum (n : Nat) : sm (fun l => if (l + 1) ∣ n then tot (n / (l + 1)) else 0) n = n := by
  have h1 : sm (fun l => if (l + 1) ∣ n then tot (n / (l + 1)) else 0) n = sm (fun l => sm (fun i => if Nat.gcd (i + 1) n = l + 1 then 1 else 0) n) n := by
    apply sm_congr
    intro l _
    have e : sm (fun i => if Nat.gcd (i + 1) n = l + 1 then 1 else 0) n = ct (fun i => decide (Nat.gcd (i + 1) n = l + 1)) n := by
      unfold ct
      apply sm_congr
      intro i _
      by_cases q : Nat.gcd (i + 1) n = l + 1 <;> simp [q]
    by_cases q : (l + 1) ∣ n
    · rw [if_pos q, e, gcd_class n (l + 1) (by omega) q]
    · rw [if_neg q, sm_congr (g := fun _ => 0) fun i _ => if_neg fun z => q (by have := Nat.gcd_dvd_right (i + 1) n; rwa [z] at this), sm_zero]
  rw [h1, sm_swap]
  have : sm (fun i => sm (fun l => if Nat.gcd (i + 1) n = l + 1 then 1 else 0) n) n = sm (fun _ => 1) n := by
    apply sm_congr
    intro i hi
    exact one_place n _ (Nat.gcd_pos_of_pos_left _ (by omega)) (Nat.le_trans (Nat.le_of_dvd (by omega) (Nat.gcd_dvd_left _ _)) (by omega))
  rw [this]
  clear this h1
  induction n with
  | zero => rfl
  | succ n ih => show sm (fun _ => 1) n + 1 = n + 1; rw [ih]
/-- how many pairs a <= b <= n share nothing -/
def Tot (n : Nat) : Nat := sm (fun i => tot (i + 1)) n
theorem div_step (n l : Nat) (hl : 0 < l) : (n + 1) / l = n / l + if l ∣ n + 1 then 1 else 0 := by
  rw [Nat.succ_div]
theorem tot_pairs : ∀ n, 2 * sm (fun l => Tot (n / (l + 1))) n = n * (n + 1)
  | 0 => rfl
  | n + 1 => by
    have ih := tot_pairs n
    have h1 : sm (fun l => Tot ((n + 1) / (l + 1))) (n + 1) = sm (fun l => Tot (n / (l + 1))) n + sm (fun l => if (l + 1) ∣ n + 1 then tot ((n + 1) / (l + 1)) else 0) (n + 1) := by
      have e0 : sm (fun l => Tot (n / (l + 1))) n = sm (fun l => Tot (n / (l + 1))) (n + 1) := by
        show _ = sm (fun l => Tot (n / (l + 1))) n + Tot (n / (n + 1))
        rw [Nat.div_eq_of_lt (by omega)]
        rfl
      rw [e0, ← sm_add]
      apply sm_congr
      intro l _
      rw [div_step n (l + 1) (by omega)]
      by_cases q : (l + 1) ∣ n + 1
      · rw [if_pos q, if_pos q]
        rfl
      · rw [if_neg q, if_neg q]
        rfl
    rw [h1, tot_sum, Nat.mul_add, ih]
    have e1 : (n + 1) * (n + 1 + 1) = n * (n + 1) + 2 * (n + 1) := by
      rw [Nat.mul_comm (n + 1) (n + 1 + 1), ← Nat.add_mul]
    omega
end Tot

set_option Elab.async false
set_option linter.all false
set_option maxRecDepth 100000
set_option maxHeartbeats 4000000
namespace VL
open PySem PySem.Spec PyProof.Rows L2
def M_farey_count : List D → Option D
  | [.int n] => if 1 ≤ n ∧ n ≤ 10000 then some (.int (8 * (Tot.Tot n.toNat : Nat))) else none
  | _ => none
def b_first_eighth : DS := (dSeq (dSetF 1 (aCons (toT (aCons (dC (.int 1)) (aCons (dC (.int 0)) aNil))) aNil))
  (dSeq (dAsg (.t [2, 3]) (toT (aCons (dC (.int 1)) (aCons (dC (.int 0)) aNil))))
  (dSeq (dPar [4, 5] (aCons (rdE 0) (aCons (dC (.int 1)) aNil)))
  (dSeq (dWhile (d2 cNe (toT (aCons (rdE 4) (aCons (rdE 5) aNil))) (toT (aCons (dC (.int 1)) (aCons (dC (.int 1)) aNil))))
  (dSeq (dApp 1 (toT (aCons (rdE 4) (aCons (rdE 5) aNil))))
  (dSeq (dSet 6 (d2 kDiv (d2 kAdd (rdO 0) (rdO 2)) (rdO 4)))
  (dSeq (dAsg (.t [2, 3, 4, 5]) (toT (aCons (rdE 4) (aCons (rdE 5) (aCons (d2 kSub (d2 kMul (rdO 6) (rdO 4)) (rdO 2)) (aCons (d2 kSub (d2 kMul (rdO 6) (rdO 5)) (rdO 3)) aNil))))))
  (ghost (kill [6]) dNx)))))
  (ghost (kill [0, 2, 3, 4, 5, 6]) (dSeq (dApp 1 (toT (aCons (dC (.int 1)) (aCons (dC (.int 1)) aNil))))
  (dRetF (rdF 1))))))))
def M_first_eighth : List D → Option D := runD true 7 [false] b_first_eighth

def b_first_quarter : DS := (dSeq (dSet 1 (toL (asL (kCall M_first_eighth (aCons (rdE 0) aNil)))))
  (dSeq (dSetF 2 (d1 kList (rdO 1)))
  (ghost (kill [0]) (dSeq (dFor (d3 kR3 (d2 kSub (d1 kLen (rdO 1)) (dC (.int 2))) (dC (.int 0)) (d1 kNeg (dC (.int 1)))) (.n 3)
  (dSeq (dApp 2 (toT (aCons (d2 kIx (d2 kIx (rdO 1) (rdO 3)) (dC (.int 1))) (aCons (d2 kIx (d2 kIx (rdO 1) (rdO 3)) (dC (.int 0))) aNil))))
  (ghost (kill [3]) dNx)))
  (ghost (kill [1, 3]) (dRetF (rdF 2)))))))
def M_first_quarter : List D → Option D := runD true 4 [false] b_first_quarter

def b_farey_fan : DS := (dSeq (dSetF 1 aNil)
  (dSeq (dSetF 2 (asL (kCall M_first_quarter (aCons (rdE 0) aNil))))
  (ghost (kill [0]) (dSeq (dFor (d1 kR1 (dC (.int 4))) (.n 3)
  (dSeq (dExt 1 2)
  (dSeq (dSetF 2 (dLc (asL (rdO 2)) (.t [4, 5]) dYes (toT (aCons (d1 kNeg (rdO 5)) (aCons (rdE 4) aNil))) [4, 5]))
  (ghost (kill [3]) dNx))))
  (ghost (kill [2, 3]) (dRetF (rdF 1)))))))
def M_farey_fan : List D → Option D := runD true 6 [false] b_farey_fan

def b_shares_with : DS := (dSeq (dSetF 1 aNil)
  (dSeq (dSet 2 (dC (.int 1)))
  (dSeq (dWhile (d2 cLe (rdO 2) (rdO 0))
  (dSeq (dApp 1 (d2 kDiv (rdO 0) (rdO 2)))
  (dSet 2 (d2 kAdd (d2 kDiv (rdO 0) (d2 kDiv (rdO 0) (rdO 2))) (dC (.int 1))))))
  (ghost (kill [0, 2]) (dRetF (d1 kRev (rdO 1)))))))
def M_shares_with : List D → Option D := runD true 3 [false] b_shares_with

def b_is_number : DS := (dRet (dAndV (d1 kIsiInt (rdO 0)) (dNotV (d1 kIsiBool (rdO 0)))))
def M_is_number : List D → Option D := runD false 1 [false] b_is_number

def b_is_number_tuple : DS := (dSeq (dIf (dOr (dNot (ofB (d1 kIsiTup (rdO 0)))) (d2 cNe (d1 kLen (rdO 0)) (rdO 1)))
  (dRet (dC (.bool false)))
  dNx)
  (ghost (kill [1]) (dSeq (dFor (asT (rdE 0)) (.n 2)
  (dSeq (dIf (dNot (ofB (kCall M_is_number (aCons (rdE 2) aNil))))
  (dRet (dC (.bool false)))
  dNx)
  (ghost (kill [2]) dNx)))
  (ghost (kill [0, 2]) (dRet (dC (.bool true)))))))
def M_is_number_tuple : List D → Option D := runD false 3 [false, false] b_is_number_tuple

def b_is_vector : DS := (dRet (kCall M_is_number_tuple (aCons (rdE 0) (aCons (dC (.int 2)) aNil))))
def M_is_vector : List D → Option D := runD false 1 [false] b_is_vector

def b_divisor_of : DS := (dSeq (dSet 0 (d1 kAbs (rdO 0)))
  (dSeq (dSet 1 (d1 kAbs (rdO 1)))
  (dSeq (dWhile (d2 cNe (rdO 1) (dC (.int 0)))
  (dPar [0, 1] (aCons (rdE 1) (aCons (d2 kMod (rdO 0) (rdO 1)) aNil))))
  (ghost (kill [1]) (dRet (rdE 0))))))
def M_divisor_of : List D → Option D := runD false 2 [false, false] b_divisor_of

def b_is_primitive : DS := (dRet (toB (d2 cEq (kCall M_divisor_of (aCons (d2 kIx (rdO 0) (dC (.int 0))) (aCons (d2 kIx (rdO 0) (dC (.int 1))) aNil))) (dC (.int 1)))))
def M_is_primitive : List D → Option D := runD false 1 [false] b_is_primitive

def b_crossed : DS := (dRet (d2 kSub (d2 kMul (d2 kIx (rdO 0) (dC (.int 0))) (d2 kIx (rdO 1) (dC (.int 1)))) (d2 kMul (d2 kIx (rdO 0) (dC (.int 1))) (d2 kIx (rdO 1) (dC (.int 0))))))
def M_crossed : List D → Option D := runD false 2 [false, false] b_crossed

def b_is_upper : DS := (dRet (dOrV (toB (d2 cGt (d2 kIx (rdO 0) (dC (.int 1))) (dC (.int 0)))) (dAndV (toB (d2 cEq (d2 kIx (rdO 0) (dC (.int 1))) (dC (.int 0)))) (toB (d2 cGt (d2 kIx (rdO 0) (dC (.int 0))) (dC (.int 0)))))))
def M_is_upper : List D → Option D := runD false 1 [false] b_is_upper

def b_step_products : DS := (dRetF (dLc (d1 kR1 (d1 kLen (rdO 0))) (.n 1) dYes (kCall M_crossed (aCons (d2 kIx (rdO 0) (rdO 1)) (aCons (d2 kIx (rdO 0) (d2 kMod (d2 kAdd (rdO 1) (dC (.int 1))) (d1 kLen (rdO 0)))) aNil))) [1]))
def M_step_products : List D → Option D := runD true 2 [true] b_step_products

def b_rounds : DS := (dSeq (dSet 1 (dC (.int 0)))
  (dSeq (dFor (d1 kR1 (d1 kLen (rdO 0))) (.n 2)
  (dSeq (dIf (dAnd (ofB (kCall M_is_upper (aCons (d2 kIx (rdO 0) (rdO 2)) aNil))) (dNot (ofB (kCall M_is_upper (aCons (d2 kIx (rdO 0) (d2 kSub (rdO 2) (dC (.int 1)))) aNil)))))
  (dSet 1 (d2 kAdd (rdO 1) (dC (.int 1))))
  dNx)
  (ghost (kill [2]) dNx)))
  (ghost (kill [0, 2]) (dRet (rdE 1)))))
def M_rounds : List D → Option D := runD false 3 [true] b_rounds

def b_is_fan : DS := (dSeq (dIf (dOr (dNot (ofB (d1 kIsiList (rdO 0)))) (d2 cLt (d1 kLen (rdO 0)) (dC (.int 3))))
  (dRet (dC (.bool false)))
  dNx)
  (dSeq (dFor (rdS 0) (.n 1)
  (dSeq (dIf (dOr (dNot (ofB (kCall M_is_vector (aCons (rdE 1) aNil)))) (dNot (ofB (kCall M_is_primitive (aCons (rdE 1) aNil)))))
  (dRet (dC (.bool false)))
  dNx)
  (ghost (kill [1]) dNx)))
  (ghost (kill [1]) (dRet (dAndV (toB (d2 cGe (d1 kMin (toL (asL (kCall M_step_products (aCons (rdO 0) aNil))))) (dC (.int 1)))) (toB (d2 cEq (kCall M_rounds (aCons (rdO 0) aNil)) (dC (.int 1)))))))))
def M_is_fan : List D → Option D := runD false 2 [true] b_is_fan

def b_is_smooth : DS := (dRet (toB (d2 cEq (d1 kMax (toL (asL (kCall M_step_products (aCons (rdO 0) aNil))))) (dC (.int 1)))))
def M_is_smooth : List D → Option D := runD false 1 [true] b_is_smooth

def b_fan_numbers : DS := (dSeq (dSet 1 (d1 kLen (rdO 0)))
  (dRetF (dLc (d1 kR1 (rdO 1)) (.n 2) dYes (kCall M_crossed (aCons (d2 kIx (rdO 0) (d2 kSub (rdO 2) (dC (.int 1)))) (aCons (d2 kIx (rdO 0) (d2 kMod (d2 kAdd (rdO 2) (dC (.int 1))) (rdO 1))) aNil))) [2])))
def M_fan_numbers : List D → Option D := runD true 3 [true] b_fan_numbers

def b__law_draws : DS := (dSeq (dSetF 2 aNil)
  (dSeq (dFor (asL (toL (dCut (rdO 0) pNo (pAt (dC (.int 63)))))) (.n 3)
  (dSeq (dSet 5 (d1 kAbs (d1 kInt (rdO 3))))
  (dIf (d2 cGe (rdO 5) (d2 kPow (dC (.int 10)) (dC (.int 18))))
  (ghost (kill [0, 3]) (dSeq (dFor (d1 kR1 (dC (.int 60))) (.n 4)
  (dSeq (dIf (d2 cGt (rdO 5) (dC (.int 0)))
  (dSeq (dApp 2 (d2 kMod (rdO 5) (dC (.int 1000003))))
  (dSet 5 (d2 kDiv (rdO 5) (dC (.int 1000003)))))
  dNx)
  (ghost (kill [4]) dNx)))
  (ghost (kill [4, 5]) dNx)))
  (dSeq (dSet 6 (d2 kMod (d2 kAdd (d2 kAdd (d2 kMul (rdO 5) (dC (.int 48271))) (d2 kMul (dC (.int 7)) (d1 kLen (rdO 2)))) (dC (.int 11))) (dC (.int 2147483647))))
  (ghost (kill [0, 3, 5]) (dSeq (dFor (d1 kR1 (dC (.int 4))) (.n 4)
  (dSeq (dSet 6 (d2 kMod (d2 kAdd (d2 kAdd (d2 kAdd (d2 kMul (rdO 6) (dC (.int 69621))) (d2 kDiv (rdO 6) (dC (.int 65536)))) (d2 kMul (dC (.int 13)) (rdO 4))) (dC (.int 5))) (dC (.int 2147483629))))
  (dSeq (dApp 2 (d2 kMod (d2 kDiv (rdO 6) (dC (.int 8))) (dC (.int 1000003))))
  (ghost (kill [4]) dNx))))
  (ghost (kill [4, 6]) dNx)))))))
  (ghost (kill [0, 3, 4, 5, 6]) (dSeq (dFor (d1 kR1 (rdO 1)) (.n 4)
  (dSeq (dIf (d2 cLt (d1 kLen (rdO 2)) (rdO 1))
  (dSeq (dSet 7 (dC (.int 0)))
  (dSeq (dIf (d2 cGt (d1 kLen (rdO 2)) (dC (.int 0)))
  (dSet 7 (d2 kIx (rdO 2) (d2 kMod (rdO 4) (d1 kLen (rdO 2)))))
  dNx)
  (dSeq (dApp 2 (d2 kMod (d2 kAdd (d2 kAdd (d2 kMul (rdO 7) (dC (.int 16807))) (d2 kMul (dC (.int 31)) (d1 kLen (rdO 2)))) (dC (.int 17))) (dC (.int 1000003))))
  (ghost (kill [7]) dNx))))
  dNx)
  (ghost (kill [4]) dNx)))
  (ghost (kill [4, 7]) (dRetF (dCut (rdO 2) pNo (pAt (rdO 1)))))))))
def M__law_draws : List D → Option D := runD true 8 [true, false] b__law_draws

def b__law_is_number : DS := (dRet (dAndV (d1 kIsiInt (rdO 0)) (dNotV (d1 kIsiBool (rdO 0)))))
def M__law_is_number : List D → Option D := runD false 1 [true] b__law_is_number

def b__law_is_tuple : DS := (dSeq (dIf (dOr (dNot (ofB (d1 kIsiTup (rdO 0)))) (d2 cNe (d1 kLen (rdO 0)) (rdO 1)))
  (dRet (dC (.bool false)))
  dNx)
  (ghost (kill [1]) (dSeq (dFor (asT (rdE 0)) (.n 2)
  (dSeq (dIf (dNot (ofB (kCall M__law_is_number (aCons (rdO 2) aNil))))
  (dRet (dC (.bool false)))
  dNx)
  (ghost (kill [2]) dNx)))
  (ghost (kill [0, 2]) (dRet (dC (.bool true)))))))
def M__law_is_tuple : List D → Option D := runD false 3 [false, false] b__law_is_tuple

def b__law_is_pairs : DS := (dSeq (dIf (dNot (ofB (d1 kIsiList (rdO 0))))
  (dRet (dC (.bool false)))
  dNx)
  (dSeq (dFor (rdS 0) (.n 1)
  (dSeq (dIf (dNot (ofB (kCall M__law_is_tuple (aCons (rdE 1) (aCons (dC (.int 2)) aNil)))))
  (dRet (dC (.bool false)))
  dNx)
  (ghost (kill [1]) dNx)))
  (ghost (kill [0, 1]) (dRet (dC (.bool true))))))
def M__law_is_pairs : List D → Option D := runD false 2 [true] b__law_is_pairs

def b__law_is_numbers : DS := (dSeq (dIf (dNot (ofB (d1 kIsiList (rdO 0))))
  (dRet (dC (.bool false)))
  dNx)
  (dSeq (dFor (rdS 0) (.n 1)
  (dSeq (dIf (dNot (ofB (kCall M__law_is_number (aCons (rdO 1) aNil))))
  (dRet (dC (.bool false)))
  dNx)
  (ghost (kill [1]) dNx)))
  (ghost (kill [0, 1]) (dRet (dC (.bool true))))))
def M__law_is_numbers : List D → Option D := runD false 2 [true] b__law_is_numbers

def b__law_same (M : List D → Option D) : DS := (dSeq (dIf (ofB (d1 kIsiBool (rdO 1)))
  (dRet (dAndV (d1 kIsiBool (rdO 0)) (toB (d2 cEq (rdO 0) (rdO 1)))))
  dNx)
  (dSeq (dIf (ofB (d1 kIsiInt (rdO 1)))
  (dRet (dAndV (kCall M__law_is_number (aCons (rdO 0) aNil)) (toB (d2 cEq (rdO 0) (rdO 1)))))
  dNx)
  (dSeq (dIf (ofB (d1 kIsiStr (rdO 1)))
  (dRet (dAndV (d1 kIsiStr (rdO 0)) (toB (d2 cEq (rdO 0) (rdO 1)))))
  dNx)
  (dSeq (dIf (d2 cIsN (rdO 1) (dC .none))
  (dRet (toB (d2 cIsN (rdO 0) (dC .none))))
  dNx)
  (dSeq (dIf (dAnd (ofB (d1 kIsiTup (rdO 1))) (dNot (ofB (d1 kIsiTup (rdO 0)))))
  (dRet (dC (.bool false)))
  dNx)
  (dSeq (dIf (dAnd (ofB (d1 kIsiList (rdO 1))) (dNot (ofB (d1 kIsiList (rdO 0)))))
  (dRet (dC (.bool false)))
  dNx)
  (dSeq (dIf (d2 cNe (d1 kLen (rdO 0)) (d1 kLen (rdO 1)))
  (dRet (dC (.bool false)))
  dNx)
  (dSeq (dFor (d1 kR1 (d1 kLen (rdO 1))) (.n 2)
  (dSeq (dIf (dNot (ofB (kCall M (aCons (d2 kIx (rdO 0) (rdO 2)) (aCons (d2 kIx (rdO 1) (rdO 2)) aNil)))))
  (dRet (dC (.bool false)))
  dNx)
  (ghost (kill [2]) dNx)))
  (ghost (kill [0, 1, 2]) (dRet (dC (.bool true))))))))))))
def Mr__law_same : Nat → List D → Option D
  | 0 => fun _ => none
  | n + 1 => runD false 3 [true, true] (b__law_same (Mr__law_same n))
def M__law_same : List D → Option D := Mr__law_same 8

def b__law_gcd : DS := (dSeq (dSet 0 (d1 kAbs (rdO 0)))
  (dSeq (dSet 1 (d1 kAbs (rdO 1)))
  (dSeq (dWhile (d2 cNe (rdO 1) (dC (.int 0)))
  (dSeq (dSet 2 (d2 kMod (rdO 0) (rdO 1)))
  (dSeq (dSet 0 (rdE 1))
  (dSeq (dSet 1 (rdE 2))
  (ghost (kill [2]) dNx)))))
  (ghost (kill [1, 2]) (dRet (rdE 0))))))
def M__law_gcd : List D → Option D := runD false 3 [false, false] b__law_gcd

def b__law_cross : DS := (dRet (d2 kSub (d2 kMul (d2 kIx (rdO 0) (dC (.int 0))) (d2 kIx (rdO 1) (dC (.int 1)))) (d2 kMul (d2 kIx (rdO 0) (dC (.int 1))) (d2 kIx (rdO 1) (dC (.int 0))))))
def M__law_cross : List D → Option D := runD false 2 [false, false] b__law_cross

def b__law_many : DS := (dSeq (dSet 1 (dC (.int 0)))
  (dSeq (dFor (d2 kR2 (d1 kNeg (rdO 0)) (d2 kAdd (rdO 0) (dC (.int 1)))) (.n 2)
  (dSeq (dFor (d2 kR2 (d1 kNeg (rdO 0)) (d2 kAdd (rdO 0) (dC (.int 1)))) (.n 3)
  (dSeq (dIf (d2 cEq (kCall M__law_gcd (aCons (rdE 2) (aCons (rdE 3) aNil))) (dC (.int 1)))
  (dSet 1 (d2 kAdd (rdO 1) (dC (.int 1))))
  dNx)
  (ghost (kill [3]) dNx)))
  (ghost (kill [2, 3]) dNx)))
  (ghost (kill [0, 2, 3]) (dRet (rdE 1)))))
def M__law_many : List D → Option D := runD false 4 [false] b__law_many

def b__law_sieved : DS := (dSeq (dSetF 1 (d1 kLRg1 (d2 kAdd (rdO 0) (dC (.int 1)))))
  (dSeq (dFor (d2 kR2 (dC (.int 2)) (d2 kAdd (rdO 0) (dC (.int 1)))) (.n 2)
  (dIf (d2 cEq (d2 kIx (rdO 1) (rdO 2)) (rdO 2))
  (dSeq (dFor (d3 kR3 (rdO 2) (d2 kAdd (rdO 0) (dC (.int 1))) (rdO 2)) (.n 3)
  (dSeq (dPut 1 (rdO 3) (d2 kSub (d2 kIx (rdO 1) (rdO 3)) (d2 kDiv (d2 kIx (rdO 1) (rdO 3)) (rdO 2))))
  (ghost (kill [3]) dNx)))
  (ghost (kill [2, 3]) dNx))
  (ghost (kill [2]) dNx)))
  (ghost (kill [0, 2, 3]) (dRet (d2 kMul (dC (.int 8)) (d1 kSum (rdO 1)))))))
def M__law_sieved : List D → Option D := runD false 4 [false] b__law_sieved

def b__law_goes_round : DS := (dSeq (dSet 1 (dC (.int 0)))
  (dSeq (dFor (d1 kR1 (d1 kLen (rdO 0))) (.n 2)
  (dSeq (dIf (d2 cNe (kCall M__law_cross (aCons (d2 kIx (rdO 0) (d2 kSub (rdO 2) (dC (.int 1)))) (aCons (d2 kIx (rdO 0) (rdO 2)) aNil))) (dC (.int 1)))
  (dRet (dC (.bool false)))
  dNx)
  (dSeq (dIf (dAnd (d2 cLt (d2 kIx (d2 kIx (rdO 0) (d2 kSub (rdO 2) (dC (.int 1)))) (dC (.int 1))) (dC (.int 0))) (d2 cGe (d2 kIx (d2 kIx (rdO 0) (rdO 2)) (dC (.int 1))) (dC (.int 0))))
  (dSet 1 (d2 kAdd (rdO 1) (dC (.int 1))))
  dNx)
  (ghost (kill [2]) dNx))))
  (ghost (kill [0, 2]) (dRet (toB (d2 cEq (rdO 1) (dC (.int 1))))))))
def M__law_goes_round : List D → Option D := runD false 3 [true] b__law_goes_round

def b__law_in_part : DS := (dSeq (dAsg (.t [2, 3]) (rdE 0))
  (ghost (kill [0]) (dSeq (dFor (d1 kR1 (d2 kDiv (rdO 1) (dC (.int 2)))) (.n 4)
  (dSeq (dPar [2, 3] (aCons (rdE 3) (aCons (d1 kNeg (rdO 2)) aNil)))
  (ghost (kill [4]) dNx)))
  (ghost (kill [4]) (dSeq (dIf (d2 cEq (d2 kMod (rdO 1) (dC (.int 2))) (dC (.int 1)))
  (dPar [2, 3] (aCons (rdE 3) (aCons (rdE 2) aNil)))
  dNx)
  (dRet (dAndV (toB (d2 cLe (dC (.int 0)) (rdO 3))) (toB (d2 cLe (rdO 3) (rdO 2))))))))))
def M__law_in_part : List D → Option D := runD false 5 [false, false] b__law_in_part

def b__law_numbered : DS := (dSeq (dSet 1 (toL (d1 kList (rdO 0))))
  (dSeq (dIf (dOr (d2 cNisB (kCall M_is_fan (aCons (rdO 1) aNil)) (dC (.bool true))) (d2 cNisB (kCall M_is_smooth (aCons (rdO 1) aNil)) (dC (.bool true))))
  (dRet (dC (.bool false)))
  dNx)
  (dSeq (dSet 2 (toL (asL (kCall M_fan_numbers (aCons (rdO 1) aNil)))))
  (dSeq (dIf (dOr (d2 cNe (rdO 1) (rdO 0)) (dOr (dNot (ofB (kCall M__law_is_numbers (aCons (rdO 2) aNil)))) (d2 cNe (d1 kLen (rdO 2)) (d1 kLen (rdO 0)))))
  (dRet (dC (.bool false)))
  dNx)
  (ghost (kill [1]) (dSeq (dFor (d1 kR1 (d1 kLen (rdO 0))) (.n 3)
  (dSeq (dSet 4 (d2 kIx (rdO 0) (d2 kSub (rdO 3) (dC (.int 1)))))
  (dSeq (dSet 5 (d2 kIx (rdO 0) (d2 kMod (d2 kAdd (rdO 3) (dC (.int 1))) (d1 kLen (rdO 0)))))
  (dSeq (dIf (d2 cNe (toT (aCons (d2 kAdd (d2 kIx (rdO 4) (dC (.int 0))) (d2 kIx (rdO 5) (dC (.int 0)))) (aCons (d2 kAdd (d2 kIx (rdO 4) (dC (.int 1))) (d2 kIx (rdO 5) (dC (.int 1)))) aNil))) (toT (aCons (d2 kMul (d2 kIx (rdO 2) (rdO 3)) (d2 kIx (d2 kIx (rdO 0) (rdO 3)) (dC (.int 0)))) (aCons (d2 kMul (d2 kIx (rdO 2) (rdO 3)) (d2 kIx (d2 kIx (rdO 0) (rdO 3)) (dC (.int 1)))) aNil))))
  (dRet (dC (.bool false)))
  dNx)
  (dSeq (dSetF 6 (dLc (asL (toL (aCons (rdE 4) (aCons (d2 kIx (rdO 0) (rdO 3)) (aCons (rdE 5) aNil))))) (.n 8) dYes (d2 k2Max (d1 kAbs (d2 kIx (rdO 8) (dC (.int 0)))) (d1 kAbs (d2 kIx (rdO 8) (dC (.int 1))))) [8]))
  (ghost (fz 6) (dSeq (dFor (d1 kR1 (dC (.int 8))) (.n 7)
  (dSeq (dIf (dAnd (ofB (kCall M__law_in_part (aCons (rdE 4) (aCons (rdE 7) aNil)))) (dAnd (ofB (kCall M__law_in_part (aCons (d2 kIx (rdO 0) (rdO 3)) (aCons (rdE 7) aNil)))) (ofB (kCall M__law_in_part (aCons (rdE 5) (aCons (rdE 7) aNil))))))
  (dIf (d2 cNe (d2 kMul (d2 kIx (rdO 2) (rdO 3)) (d2 kIx (rdO 6) (dC (.int 1)))) (d2 kAdd (d2 kIx (rdO 6) (dC (.int 0))) (d2 kIx (rdO 6) (dC (.int 2)))))
  (dRet (dC (.bool false)))
  dNx)
  dNx)
  (ghost (kill [7]) dNx)))
  (ghost (kill [3, 4, 5, 6, 7]) dNx))))))))
  (ghost (kill [0, 2, 3, 4, 5, 6, 7]) (dRet (dC (.bool true))))))))))
def M__law_numbered : List D → Option D := runD false 9 [true] b__law_numbered

def b__law_fanned : DS := (dSeq (dSetF 1 (asL (kCall M_farey_fan (aCons (rdE 0) aNil))))
  (dSeq (dIf (dOr (dNot (ofB (kCall M__law_is_pairs (aCons (rdO 1) aNil)))) (dOr (d2 cNe (d1 kLen (rdO 1)) (kCall M__law_many (aCons (rdE 0) aNil))) (dOr (d2 cNe (d2 kIx (rdO 1) (dC (.int 0))) (toT (aCons (dC (.int 1)) (aCons (dC (.int 0)) aNil)))) (dNot (ofB (kCall M__law_goes_round (aCons (rdO 1) aNil)))))))
  (dRet (dC (.bool false)))
  dNx)
  (dSeq (dIf (dOr (d2 cNe (d1 kMax (toL (dLc (asL (rdO 1)) (.t [3, 4]) dYes (d2 k2Max (d1 kAbs (rdO 3)) (d1 kAbs (rdO 4))) [3, 4]))) (rdO 0)) (dNot (ofB (kCall M__law_same (aCons (kCall M_farey_count (aCons (rdE 0) aNil)) (aCons (d1 kLen (rdO 1)) aNil))))))
  (dRet (dC (.bool false)))
  dNx)
  (dSeq (dIf (dAnd (d2 cLe (rdO 0) (dC (.int 8))) (dNot (ofB (kCall M__law_numbered (aCons (rdO 1) aNil)))))
  (dRet (dC (.bool false)))
  dNx)
  (dSeq (dSet 2 (toL (d1 kList (rdO 1))))
  (dSeq (dApp 1 (toT (aCons (dC (.int 0)) (aCons (dC (.int 0)) aNil))))
  (dSeq (dPut 1 (dC (.int 0)) (toT (aCons (dC (.int 9)) (aCons (dC (.int 9)) aNil))))
  (dRet (kCall M__law_same (aCons (toL (asL (kCall M_farey_fan (aCons (rdE 0) aNil)))) (aCons (rdO 2) aNil)))))))))))
def M__law_fanned : List D → Option D := runD false 5 [false] b__law_fanned

def b_law : DS := (dSeq (dSet 1 (toL (asL (kCall M__law_draws (aCons (rdO 0) (aCons (dC (.int 5)) aNil))))))
  (dSeq (dSet 2 (d2 kAdd (dC (.int 1)) (d2 kMod (d2 kIx (rdO 1) (dC (.int 0))) (dC (.int 20)))))
  (dSeq (dSet 3 (d2 kAdd (dC (.int 1)) (d2 kMod (d2 kIx (rdO 1) (dC (.int 1))) (dC (.int 300)))))
  (dSeq (dIf (d2 cEq (d2 kMod (d2 kIx (rdO 1) (dC (.int 2))) (dC (.int 8))) (dC (.int 3)))
  (dSet 3 (d2 kAdd (dC (.int 1)) (d2 kMod (d2 kIx (rdO 1) (dC (.int 3))) (d2 kPow (dC (.int 10)) (dC (.int 4))))))
  dNx)
  (dSeq (dIf (dOr (dNot (ofB (kCall M__law_fanned (aCons (rdE 2) aNil)))) (dNot (ofB (kCall M__law_fanned (aCons (d2 kAdd (dC (.int 1)) (d2 kMod (d2 kIx (rdO 1) (dC (.int 4))) (dC (.int 8)))) aNil)))))
  (dRet (dC (.bool false)))
  dNx)
  (ghost (kill [0]) (dSeq (dFor (asL (toL (aCons (rdE 3) (aCons (rdE 2) (aCons (dC (.int 1)) (aCons (dC (.int 2)) (aCons (dC (.int 3)) aNil))))))) (.n 4)
  (dSeq (dIf (dNot (ofB (kCall M__law_same (aCons (kCall M_farey_count (aCons (rdE 4) aNil)) (aCons (kCall M__law_sieved (aCons (rdE 4) aNil)) aNil)))))
  (dRet (dC (.bool false)))
  dNx)
  (ghost (kill [4]) dNx)))
  (ghost (kill [2, 3, 4]) (dRet (kCall M__law_fanned (aCons (d2 kAdd (dC (.int 1)) (d2 kMod (d2 kIx (rdO 1) (dC (.int 4))) (dC (.int 3)))) aNil)))))))))))
def M_law : List D → Option D := runD false 5 [true] b_law

end VL

set_option Elab.async false
set_option linter.all false
set_option maxRecDepth 100000
set_option maxHeartbeats 4000000
set_option exponentiation.threshold 5000
namespace VL
open PySem L2
local macro_rules | `(tactic| walk_at "vl") => `(tactic| simp only [runD, goFor, goLc, mkEn_f, mkEn_t, mkEn_0, dSeq, dSet, dSetF, dRet, dRetF, dIf, dNx, dFor, dWhile, dPar, dAsg, dApp, dExt, dPut, dPop, dDrop, dPass, ghost, kill, fz, setT, setL, List.foldl_cons, List.foldl_nil, List.set_cons_zero, List.set_cons_succ, d1, d2, d3, rdO, rdE, rdS, rdF, dC, toB, ofB, dAnd, dOr, dNot, dAndV, dOrV, dNotV, dLc, dYes, wipeE, asL, asT, mul_ok, div_ok, mod_ok, add_ok, sub_ok, neg_ok, lt_ok, le_ok, gt_ok, ge_ok, eq_ok, ne_ok, isB_ok, nisB_ok, abs_ok, max2_ok, min2_ok, len_ok, lenT_ok, toList_ok, toInt_ok, rev_ok, eqPt_ok, nePt_ok, eqPts_ok, nePts_ok, eqInts_ok, neInts_ok, ix_p0, ix_p1, ix_l0, ix_l1, ix_l2, eq2_ok, ne2_ok, ix_t0, ix_t1, ix_t2, kIsiInt, kIsiBool, kIsiStr, kIsiList, kIsiTup, toT, toL, aCons, aNil, List.getElem?_cons_zero, List.getElem?_cons_succ, List.length_cons, List.length_nil, List.cons_append, List.nil_append, List.replicate, ↓reduceIte, Bool.false_eq_true, Bool.true_and, Bool.and_true, Bool.not_true, Bool.not_false, Bool.and_false, Bool.false_and, noL, kCall, List.length_map, List.length_append, Nat.sub_self, Nat.reduceSub, Nat.reduceAdd, Int.cast_ofNat_Int, Int.reduceEq, decide_true, decide_false, Nat.zero_add, Int.reduceLT, Int.reduceLE, Int.reduceAdd, Int.reduceNeg])
local macro_rules | `(tactic| walk_at "vlh") => `(tactic| simp only [runD, goFor, goLc, mkEn_f, mkEn_t, mkEn_0, dSeq, dSet, dSetF, dRet, dRetF, dIf, dNx, dFor, dWhile, dPar, dAsg, dApp, dExt, dPut, dPop, dDrop, dPass, ghost, kill, fz, setT, setL, List.foldl_cons, List.foldl_nil, List.set_cons_zero, List.set_cons_succ, d1, d2, d3, rdO, rdE, rdS, rdF, dC, toB, ofB, dAnd, dOr, dNot, dAndV, dOrV, dNotV, dLc, dYes, wipeE, asL, asT, mul_ok, div_ok, mod_ok, add_ok, sub_ok, neg_ok, lt_ok, le_ok, gt_ok, ge_ok, eq_ok, ne_ok, isB_ok, nisB_ok, abs_ok, max2_ok, min2_ok, len_ok, lenT_ok, toList_ok, toInt_ok, rev_ok, eqPt_ok, nePt_ok, eqPts_ok, nePts_ok, eqInts_ok, neInts_ok, ix_p0, ix_p1, ix_l0, ix_l1, ix_l2, eq2_ok, ne2_ok, ix_t0, ix_t1, ix_t2, kIsiInt, kIsiBool, kIsiStr, kIsiList, kIsiTup, toT, toL, aCons, aNil, List.getElem?_cons_zero, List.getElem?_cons_succ, List.length_cons, List.length_nil, List.cons_append, List.nil_append, List.replicate, ↓reduceIte, Bool.false_eq_true, Bool.true_and, Bool.and_true, Bool.not_true, Bool.not_false, Bool.and_false, Bool.false_and, noL, kCall, List.length_map, List.length_append, Nat.sub_self, Nat.reduceSub, Nat.reduceAdd, Int.cast_ofNat_Int, Int.reduceEq, decide_true, decide_false, Nat.zero_add, Int.reduceLT, Int.reduceLE, Int.reduceAdd, Int.reduceNeg, *])

/-! ### the draws of a script -/
def InR (fs : List Int) : Prop := ∀ x ∈ fs, 0 ≤ x ∧ x < 1000003
theorem InR.app {fs : List Int} {x : Int} (h : InR fs) (h1 : 0 ≤ x) (h2 : x < 1000003) : InR (fs ++ [x]) := fun y hy => by
  rcases List.mem_append.mp hy with z | z
  · exact h y z
  · have : y = x := by simpa using z
    subst this
    exact ⟨h1, h2⟩
theorem pow18 : kPow (.int 10) (.int 18) = some (.int 1000000000000000000) := by
  show (if cPow 10 18 = true then some (PyData.int (10 ^ (18 : Int).toNat)) else none) = _
  rw [if_pos (by decide +kernel)]
  rfl
theorem draws_ok (ns : List Int) (many : Nat) (hm : many ≤ 1000) : ∃ L : List Int, L.length = many ∧ InR L ∧ M__law_draws [nums ns, .int (many : Nat)] = some (nums L) := by
  unfold M__law_draws b__law_draws
  have p18 := pow18
  have cut := cut_to ns 63
  have e63 : ((63 : Nat) : Int) = 63 := rfl
  rw [e63] at cut
  have cm := cut_map PyData.int ns none (some 63)
  rw [cut] at cm
  have hl : (ns.take 63).length ≤ 63 := by rw [List.length_take]; omega
  obtain ⟨e', g1, g2⟩ := goFor_inv (T := .n 3) (body := (dSeq (dSet 5 (d1 kAbs (d1 kInt (rdO 3))))
  (dIf (d2 cGe (rdO 5) (d2 kPow (dC (.int 10)) (dC (.int 18))))
  (ghost (kill [0, 3]) (dSeq (dFor (d1 kR1 (dC (.int 60))) (.n 4)
  (dSeq (dIf (d2 cGt (rdO 5) (dC (.int 0)))
  (dSeq (dApp 2 (d2 kMod (rdO 5) (dC (.int 1000003))))
  (dSet 5 (d2 kDiv (rdO 5) (dC (.int 1000003)))))
  dNx)
  (ghost (kill [4]) dNx)))
  (ghost (kill [4, 5]) dNx)))
  (dSeq (dSet 6 (d2 kMod (d2 kAdd (d2 kAdd (d2 kMul (rdO 5) (dC (.int 48271))) (d2 kMul (dC (.int 7)) (d1 kLen (rdO 2)))) (dC (.int 11))) (dC (.int 2147483647))))
  (ghost (kill [0, 3, 5]) (dSeq (dFor (d1 kR1 (dC (.int 4))) (.n 4)
  (dSeq (dSet 6 (d2 kMod (d2 kAdd (d2 kAdd (d2 kAdd (d2 kMul (rdO 6) (dC (.int 69621))) (d2 kDiv (rdO 6) (dC (.int 65536)))) (d2 kMul (dC (.int 13)) (rdO 4))) (dC (.int 5))) (dC (.int 2147483629))))
  (dSeq (dApp 2 (d2 kMod (d2 kDiv (rdO 6) (dC (.int 8))) (dC (.int 1000003))))
  (ghost (kill [4]) dNx))))
  (ghost (kill [4, 6]) dNx)))))))
    PyData.int (fun k env => ∃ (s0 : Option Sl) (fs : List Int), env = [s0, some (.v (.int (many : Nat))), some (.o (fs.map PyData.int)), none, none, none, none, none] ∧ fs.length ≤ 60 * k ∧ InR fs) (ns.take 63) 0 (fun k x env hx ⟨s0, fs, he, hfl, hfr⟩ => by
      subst he
      have hk : k < 63 := by
        have := (List.getElem?_eq_some_iff.mp hx).1
        omega
      have m1 : kMod (.int (0 : Int)) (.int 1000003) = some (.int (0 % 1000003)) := mod_ok (by omega)
      clear m1
      by_cases big : (1000000000000000000 : Int) ≤ (x.natAbs : Nat)
      · have r60 : kR1 (.int 60) = _ := kR1_ok (n := 60) (by omega)
        obtain ⟨e2, i1, i2⟩ := goFor_inv (T := .n 4) (body := (dSeq (dIf (d2 cGt (rdO 5) (dC (.int 0)))
  (dSeq (dApp 2 (d2 kMod (rdO 5) (dC (.int 1000003))))
  (dSet 5 (d2 kDiv (rdO 5) (dC (.int 1000003)))))
  dNx)
  (ghost (kill [4]) dNx))) (fun (i : Nat) => PyData.int (i : Nat)) (fun j env => ∃ (gs : List Int) (num : Int), env = [none, some (.v (.int (many : Nat))), some (.o (gs.map PyData.int)), none, none, some (.v (.int num)), none, none] ∧ gs.length ≤ fs.length + j ∧ InR gs) (List.range 60) 0 (fun j y env hy ⟨gs, num, he, hgl, hgr⟩ => by
            subst he
            have hj : j < 60 := by
              have := (List.getElem?_eq_some_iff.mp hy).1
              simpa using this
            refine ⟨_, ?_, rfl, .inl ?_, ?_⟩
            · exact if 0 < num then [none, some (.v (.int (many : Nat))), some (.o ((gs ++ [num % 1000003]).map PyData.int)), none, none, some (.v (.int (num / 1000003))), none, none] else [none, some (.v (.int (many : Nat))), some (.o (gs.map PyData.int)), none, none, some (.v (.int num)), none, none]
            · have m1 : kMod (.int num) (.int 1000003) = _ := mod_ok (by omega)
              have m2 : kDiv (.int num) (.int 1000003) = _ := div_ok (by omega) (sm_of (by omega) (by omega))
              have z : gs.length < sizeD := by rw [sizeD_eq]; omega
              by_cases c : 0 < num
              · rw [if_pos c]
                clear p18 cut cm hl hfl hfr hgr hx hk big r60 hgl hj hy hm
                walk_at "vlh"
                simp
              · rw [if_neg c]
                clear p18 cut cm hl hfl hfr hgr hx hk big r60 hgl hj hy hm
                walk_at "vlh"
            · by_cases c : 0 < num
              · rw [if_pos c]
                exact ⟨_, _, rfl, by rw [List.length_append, List.length_singleton]; omega, hgr.app (Int.emod_nonneg _ (by omega)) (Int.emod_lt_of_pos _ (by omega))⟩
              · rw [if_neg c]
                exact ⟨_, _, rfl, by omega, hgr⟩)
          [none, some (.v (.int (many : Nat))), some (.o (fs.map PyData.int)), none, none, some (.v (.int (x.natAbs : Nat))), none, none] ⟨fs, _, rfl, by omega, hfr⟩
        obtain ⟨gs, num, rfl, hgl, hgr⟩ := i2
        rw [List.length_range] at hgl
        refine ⟨_, [none, some (.v (.int (many : Nat))), some (.o (gs.map PyData.int)), none, none, none, none, none], rfl, .inl ?_, none, gs, rfl, by omega, hgr⟩
        clear cut cm hl hfl hfr hgr hx hk hgl hm
        walk_at "vlh"
      · have r4 : kR1 (.int 4) = _ := kR1_ok (n := 4) (by omega)
        have nb : (x.natAbs : Int) < 1000000000000000000 := by omega
        have z0 : ((x.natAbs : Nat) : Int) * 48271 + 7 * ((fs.length : Nat) : Int) + 11 ≥ 0 := by omega
        have a1 := mul_ok (i := ((x.natAbs : Nat) : Int)) (j := 48271) (sm_of (by omega) (by omega)) (sm_of (by omega) (by omega))
        have a2 := mul_ok (i := 7) (j := ((fs.length : Nat) : Int)) (sm_of (by omega) (by omega)) (sm_of (by omega) (by omega))
        have a3 : kMod (.int (((x.natAbs : Nat) : Int) * 48271 + 7 * ((fs.length : Nat) : Int) + 11)) (.int 2147483647) = _ := mod_ok (by omega)
        have a4 : 0 ≤ (((x.natAbs : Nat) : Int) * 48271 + 7 * ((fs.length : Nat) : Int) + 11) % 2147483647 := Int.emod_nonneg _ (by omega)
        have a5 : (((x.natAbs : Nat) : Int) * 48271 + 7 * ((fs.length : Nat) : Int) + 11) % 2147483647 < 2147483647 := Int.emod_lt_of_pos _ (by omega)
        generalize (((x.natAbs : Nat) : Int) * 48271 + 7 * ((fs.length : Nat) : Int) + 11) % 2147483647 = mix at a3 a4 a5
        obtain ⟨e2, i1, i2⟩ := goFor_inv (T := .n 4) (body := (dSeq (dSet 6 (d2 kMod (d2 kAdd (d2 kAdd (d2 kAdd (d2 kMul (rdO 6) (dC (.int 69621))) (d2 kDiv (rdO 6) (dC (.int 65536)))) (d2 kMul (dC (.int 13)) (rdO 4))) (dC (.int 5))) (dC (.int 2147483629))))
  (dSeq (dApp 2 (d2 kMod (d2 kDiv (rdO 6) (dC (.int 8))) (dC (.int 1000003))))
  (ghost (kill [4]) dNx)))) (fun (i : Nat) => PyData.int (i : Nat)) (fun j env => ∃ (gs : List Int) (num : Int), env = [none, some (.v (.int (many : Nat))), some (.o (gs.map PyData.int)), none, none, none, some (.v (.int num)), none] ∧ gs.length ≤ fs.length + j ∧ InR gs ∧ 0 ≤ num ∧ num < 2147483647) (List.range 4) 0 (fun j y env hy ⟨gs, num, he, hgl, hgr, n0, n1⟩ => by
            subst he
            obtain ⟨hj', hy'⟩ := List.getElem?_eq_some_iff.mp hy
            rw [List.getElem_range] at hy'
            rw [List.length_range] at hj'
            subst hy'
            have b1 := mul_ok (i := num) (j := 69621) (sm_of (by omega) (by omega)) (sm_of (by omega) (by omega))
            have b2 : kDiv (.int num) (.int 65536) = _ := div_ok (by omega) (sm_of (by omega) (by omega))
            have b3 := mul_ok (i := 13) (j := ((j : Nat) : Int)) (sm_of (by omega) (by omega)) (sm_of (by omega) (by omega))
            have b4 : kMod (.int (num * 69621 + num / 65536 + 13 * ((j : Nat) : Int) + 5)) (.int 2147483629) = _ := mod_ok (by omega)
            have b5 : 0 ≤ (num * 69621 + num / 65536 + 13 * ((j : Nat) : Int) + 5) % 2147483629 := Int.emod_nonneg _ (by omega)
            have b6 : (num * 69621 + num / 65536 + 13 * ((j : Nat) : Int) + 5) % 2147483629 < 2147483629 := Int.emod_lt_of_pos _ (by omega)
            generalize (num * 69621 + num / 65536 + 13 * ((j : Nat) : Int) + 5) % 2147483629 = nx at b4 b5 b6
            have b7 : kDiv (.int nx) (.int 8) = _ := div_ok (by omega) (sm_of (by omega) (by omega))
            have b8 : kMod (.int (nx / 8)) (.int 1000003) = _ := mod_ok (by omega)
            have z : gs.length < sizeD := by rw [sizeD_eq]; omega
            refine ⟨_, [none, some (.v (.int (many : Nat))), some (.o ((gs ++ [nx / 8 % 1000003]).map PyData.int)), none, none, none, some (.v (.int nx)), none], rfl, .inl ?_, gs ++ [nx / 8 % 1000003], nx, rfl, by rw [List.length_append, List.length_singleton]; omega, hgr.app (Int.emod_nonneg _ (by omega)) (Int.emod_lt_of_pos _ (by omega)), b5, by omega⟩
            clear p18 cut cm hl hfl hfr hgr hx hk big r4 hgl hj' hy hm a1 a2 a3 a4 a5 b5 b6 n0 n1 nb z0
            walk_at "vlh"
            simp)
          [none, some (.v (.int (many : Nat))), some (.o (fs.map PyData.int)), none, none, none, some (.v (.int mix)), none] ⟨fs, _, rfl, by omega, hfr, a4, a5⟩
        obtain ⟨gs, num, rfl, hgl, hgr, _, _⟩ := i2
        rw [List.length_range] at hgl
        refine ⟨_, [none, some (.v (.int (many : Nat))), some (.o (gs.map PyData.int)), none, none, none, none, none], rfl, .inl ?_, none, gs, rfl, by omega, hgr⟩
        clear cut cm hl hfl hfr hgr hx hk hgl hm a4 a5 nb z0
        walk_at "vlh") [some (.b (nums ns)), some (.v (.int (many : Nat))), some (.o []), none, none, none, none, none] ⟨_, [], rfl, by simp, fun x hx => by simp at hx⟩
  obtain ⟨s0, fs, rfl, hfl, hfr⟩ := g2
  have rm : kR1 (.int (many : Nat)) = _ := kR1_ok (n := many) (by omega)
  obtain ⟨e3, j1, j2⟩ := goFor_inv (T := .n 4) (body := (dSeq (dIf (d2 cLt (d1 kLen (rdO 2)) (rdO 1))
  (dSeq (dSet 7 (dC (.int 0)))
  (dSeq (dIf (d2 cGt (d1 kLen (rdO 2)) (dC (.int 0)))
  (dSet 7 (d2 kIx (rdO 2) (d2 kMod (rdO 4) (d1 kLen (rdO 2)))))
  dNx)
  (dSeq (dApp 2 (d2 kMod (d2 kAdd (d2 kAdd (d2 kMul (rdO 7) (dC (.int 16807))) (d2 kMul (dC (.int 31)) (d1 kLen (rdO 2)))) (dC (.int 17))) (dC (.int 1000003))))
  (ghost (kill [7]) dNx))))
  dNx)
  (ghost (kill [4]) dNx))) (fun (i : Nat) => PyData.int (i : Nat)) (fun j env => ∃ (gs : List Int), env = [none, some (.v (.int (many : Nat))), some (.o (gs.map PyData.int)), none, none, none, none, none] ∧ gs.length ≤ 60 * 63 + j ∧ InR gs ∧ (j ≤ gs.length ∨ many ≤ gs.length)) (List.range many) 0 (fun j y env hy ⟨gs, he, hgl, hgr, hg⟩ => by
      subst he
      obtain ⟨hj', hy'⟩ := List.getElem?_eq_some_iff.mp hy
      rw [List.getElem_range] at hy'
      rw [List.length_range] at hj'
      subst hy'
      by_cases c : gs.length < many
      · have c' : (gs.length : Int) < (many : Int) := by omega
        have z : gs.length < sizeD := by rw [sizeD_eq]; omega
        obtain ⟨base, hb0, hb1, hbase⟩ : ∃ base : Int, 0 ≤ base ∧ base < 1000003 ∧ ((gs.length = 0 ∧ base = 0) ∨ (0 < gs.length ∧ kIx (nums gs) (.int (((j : Nat) : Int) % ((gs.length : Nat) : Int))) = some (.int base))) := by
          by_cases c0 : gs.length = 0
          · exact ⟨0, by omega, by omega, .inl ⟨c0, rfl⟩⟩
          · have hlt : j % gs.length < gs.length := Nat.mod_lt _ (by omega)
            have hr := hgr _ (List.getElem_mem hlt)
            exact ⟨gs[j % gs.length], hr.1, hr.2, .inr ⟨by omega, ix_map PyData.int (atI_lt hlt)⟩⟩
        have b1 := mul_ok (i := base) (j := 16807) (sm_of (by omega) (by omega)) (sm_of (by omega) (by omega))
        have b3 := mul_ok (i := 31) (j := ((gs.length : Nat) : Int)) (sm_of (by omega) (by omega)) (sm_of (by omega) (by omega))
        have b4 : kMod (.int (base * 16807 + 31 * ((gs.length : Nat) : Int) + 17)) (.int 1000003) = _ := mod_ok (by omega)
        refine ⟨_, [none, some (.v (.int (many : Nat))), some (.o ((gs ++ [(base * 16807 + 31 * ((gs.length : Nat) : Int) + 17) % 1000003]).map PyData.int)), none, none, none, none, none], rfl, .inl ?_, _, rfl, by rw [List.length_append, List.length_singleton]; omega, hgr.app (Int.emod_nonneg _ (by omega)) (Int.emod_lt_of_pos _ (by omega)), .inl (by rw [List.length_append, List.length_singleton]; omega)⟩
        rcases hbase with ⟨c0, rfl⟩ | ⟨c0, hix⟩
        · have g0 : gs = [] := List.length_eq_zero_iff.mp c0
          subst g0
          have w1 : (0 : Int) < (many : Int) := c'
          have w2 : kMul (.int 31) (.int 0) = some (.int (31 * 0)) := b3
          have w4 : kMod (.int (0 * 16807 + 31 * 0 + 17)) (.int 1000003) = some (.int ((0 * 16807 + 31 * 0 + 17) % 1000003)) := b4
          have w5 : 0 < sizeD := z
          have w6 : (([] : List Int).length : Int) = 0 := rfl
          clear p18 cut cm hl hfl hfr hgr rm hgl hj' hy hm g1 hb0 hb1 hg c0 b3 b4 z c' c
          simp only [w6, List.map_nil, List.nil_append]
          walk_at "vlh"
          simp
        · have c2 : (0 : Int) < ((gs.length : Nat) : Int) := by omega
          have m2 : kMod (.int ((j : Nat) : Int)) (.int ((gs.length : Nat) : Int)) = _ := mod_ok c2
          clear p18 cut cm hl hfl hfr hgr rm hgl hj' hy hm g1 hb0 hb1 hg c0
          walk_at "vlh"
          simp
      · have c' : ¬ (gs.length : Int) < (many : Int) := by omega
        refine ⟨_, [none, some (.v (.int (many : Nat))), some (.o (gs.map PyData.int)), none, none, none, none, none], rfl, .inl ?_, _, rfl, by omega, hgr, .inr (by omega)⟩
        clear p18 cut cm hl hfl hfr hgr rm hgl hj' hy hm g1 hg
        walk_at "vlh") [none, some (.v (.int (many : Nat))), some (.o (fs.map PyData.int)), none, none, none, none, none] ⟨fs, rfl, by omega, hfr, .inl (Nat.zero_le _)⟩
  obtain ⟨gs, rfl, hgl, hgr, hg⟩ := j2
  rw [List.length_range] at hg
  have lg : many ≤ gs.length := by omega
  have cm2 : cutD (gs.map PyData.int) none (some ((many : Nat) : Int)) = (gs.take many).map PyData.int := by rw [cut_map, cut_to]
  refine ⟨gs.take many, by rw [List.length_take]; omega, fun x hx => hgr x (List.mem_of_mem_take hx), ?_⟩
  clear cut hl hfl hfr hgr hgl hm hg lg
  walk_at "vl"
  simp only [dCut, pNo, pAt]
  walk_at "vlh"
end VL

set_option Elab.async false
set_option linter.all false
set_option maxRecDepth 100000
set_option maxHeartbeats 4000000
set_option exponentiation.threshold 5000
namespace VL
open PySem L2
local macro_rules | `(tactic| walk_at "vl") => `(tactic| simp only [runD, goFor, goLc, mkEn_f, mkEn_t, mkEn_0, dSeq, dSet, dSetF, dRet, dRetF, dIf, dNx, dFor, dWhile, dPar, dAsg, dApp, dExt, dPut, dPop, dDrop, dPass, ghost, kill, fz, setT, setL, List.foldl_cons, List.foldl_nil, List.set_cons_zero, List.set_cons_succ, d1, d2, d3, rdO, rdE, rdS, rdF, dC, toB, ofB, dAnd, dOr, dNot, dAndV, dOrV, dNotV, dLc, dYes, wipeE, asL, asT, mul_ok, div_ok, mod_ok, add_ok, sub_ok, neg_ok, lt_ok, le_ok, gt_ok, ge_ok, eq_ok, ne_ok, isB_ok, nisB_ok, abs_ok, max2_ok, min2_ok, len_ok, lenT_ok, toList_ok, toInt_ok, rev_ok, eqPt_ok, nePt_ok, eqPts_ok, nePts_ok, eqInts_ok, neInts_ok, ix_p0, ix_p1, ix_l0, ix_l1, ix_l2, eq2_ok, ne2_ok, ix_t0, ix_t1, ix_t2, kIsiInt, kIsiBool, kIsiStr, kIsiList, kIsiTup, toT, toL, aCons, aNil, List.getElem?_cons_zero, List.getElem?_cons_succ, List.length_cons, List.length_nil, List.cons_append, List.nil_append, List.replicate, ↓reduceIte, Bool.false_eq_true, Bool.true_and, Bool.and_true, Bool.not_true, Bool.not_false, Bool.and_false, Bool.false_and, noL, kCall, List.length_map, List.length_append, Nat.sub_self, Nat.reduceSub, Nat.reduceAdd, Int.cast_ofNat_Int, Int.reduceEq, decide_true, decide_false, Nat.zero_add, Int.reduceLT, Int.reduceLE, Int.reduceAdd, Int.reduceNeg])
local macro_rules | `(tactic| walk_at "vlh") => `(tactic| simp only [runD, goFor, goLc, mkEn_f, mkEn_t, mkEn_0, dSeq, dSet, dSetF, dRet, dRetF, dIf, dNx, dFor, dWhile, dPar, dAsg, dApp, dExt, dPut, dPop, dDrop, dPass, ghost, kill, fz, setT, setL, List.foldl_cons, List.foldl_nil, List.set_cons_zero, List.set_cons_succ, d1, d2, d3, rdO, rdE, rdS, rdF, dC, toB, ofB, dAnd, dOr, dNot, dAndV, dOrV, dNotV, dLc, dYes, wipeE, asL, asT, mul_ok, div_ok, mod_ok, add_ok, sub_ok, neg_ok, lt_ok, le_ok, gt_ok, ge_ok, eq_ok, ne_ok, isB_ok, nisB_ok, abs_ok, max2_ok, min2_ok, len_ok, lenT_ok, toList_ok, toInt_ok, rev_ok, eqPt_ok, nePt_ok, eqPts_ok, nePts_ok, eqInts_ok, neInts_ok, ix_p0, ix_p1, ix_l0, ix_l1, ix_l2, eq2_ok, ne2_ok, ix_t0, ix_t1, ix_t2, kIsiInt, kIsiBool, kIsiStr, kIsiList, kIsiTup, toT, toL, aCons, aNil, List.getElem?_cons_zero, List.getElem?_cons_succ, List.length_cons, List.length_nil, List.cons_append, List.nil_append, List.replicate, ↓reduceIte, Bool.false_eq_true, Bool.true_and, Bool.and_true, Bool.not_true, Bool.not_false, Bool.and_false, Bool.false_and, noL, kCall, List.length_map, List.length_append, Nat.sub_self, Nat.reduceSub, Nat.reduceAdd, Int.cast_ofNat_Int, Int.reduceEq, decide_true, decide_false, Nat.zero_add, Int.reduceLT, Int.reduceLE, Int.reduceAdd, Int.reduceNeg, *])
theorem allT {α : Type} (l : List α) : (l.all fun _ => true) = true := by simp
/-! ### small defs -/
theorem law_cross_eq (p q : Pt) (h1 : Sm p.1) (h2 : Sm p.2) (h3 : Sm q.1) (h4 : Sm q.2) : M__law_cross [pt p, pt q] = some (.int (p.1 * q.2 - p.2 * q.1)) := by
  unfold M__law_cross b__law_cross
  walk_at "vlh"
theorem crossed_eq (p q : Pt) (h1 : Sm p.1) (h2 : Sm p.2) (h3 : Sm q.1) (h4 : Sm q.2) : M_crossed [pt p, pt q] = some (.int (p.1 * q.2 - p.2 * q.1)) := by
  unfold M_crossed b_crossed
  walk_at "vlh"
theorem upper_eq (p : Pt) : M_is_upper [pt p] = some (.bool (decide (0 < p.2) || (decide (p.2 = 0) && decide (0 < p.1)))) := by
  unfold M_is_upper b_is_upper
  walk_at "vl"
  by_cases h : 0 < p.2
  · simp [h]
  · by_cases h2 : p.2 = 0 <;> simp [h, h2]
theorem law_num_int (i : Int) : M__law_is_number [.int i] = some (.bool true) := by
  unfold M__law_is_number b__law_is_number
  walk_at "vl"
theorem num_int (i : Int) : M_is_number [.int i] = some (.bool true) := by
  unfold M_is_number b_is_number
  walk_at "vl"
theorem law_tuple_pt (p : Pt) : M__law_is_tuple [pt p, .int 2] = some (.bool true) := by
  unfold M__law_is_tuple b__law_is_tuple
  simp only [pt]
  have q := law_num_int
  walk_at "vlh"
theorem vector_pt (p : Pt) : M_is_vector [pt p] = some (.bool true) := by
  unfold M_is_vector b_is_vector
  walk_at "vl"
  unfold M_is_number_tuple b_is_number_tuple
  simp only [pt]
  have q := num_int
  walk_at "vlh"

theorem law_pairs_eq (F : List Pt) : M__law_is_pairs [pts F] = some (.bool true) := by
  unfold M__law_is_pairs b__law_is_pairs
  walk_at "vl"
  rw [goFor_look pt F [some (.b (pts F)), none] (fun _ => true) (.bool false) (fun x hx => ⟨_, rfl, by have q := law_tuple_pt; walk_at "vlh"⟩)]
  simp only [allT, if_true]
theorem law_numbers_eq (F : List Int) : M__law_is_numbers [nums F] = some (.bool true) := by
  unfold M__law_is_numbers b__law_is_numbers
  walk_at "vl"
  rw [goFor_look PyData.int F [some (.b (nums F)), none] (fun _ => true) (.bool false) (fun x hx => ⟨_, rfl, by have q := law_num_int; walk_at "vlh"⟩)]
  simp only [allT, if_true]
/-! gcd -/
theorem gcd_step (a b : Nat) (h : b ≠ 0) : Nat.gcd b (a % b) = Nat.gcd a b := by
  rw [Nat.gcd_comm b, ← Nat.gcd_rec, Nat.gcd_comm]
theorem law_gcd_eq (a b : Int) (hb : b.natAbs < 1000000000000000000000000000000000000000000000000000000000000) : M__law_gcd [.int a, .int b] = some (.int (Nat.gcd a.natAbs b.natAbs : Nat)) := by
  unfold M__law_gcd b__law_gcd
  walk_at "vl"
  obtain ⟨⟨x, y⟩, h1, h2, h3⟩ := goW_inv (c := d2 cNe (rdO 1) (dC (.int 0))) (body := (dSeq (dSet 2 (d2 kMod (rdO 0) (rdO 1))) (dSeq (dSet 0 (rdE 1)) (dSeq (dSet 1 (rdE 2)) (ghost (kill [2]) dNx)))))
    (fun s : Nat × Nat => [some (.v (.int (s.1 : Nat))), some (.v (.int (s.2 : Nat))), none]) (fun s => Nat.gcd s.1 s.2 = Nat.gcd a.natAbs b.natAbs) (fun s => s.2) (fun s => (s.2, s.1 % s.2)) (fun s => !decide ((s.2 : Int) = 0))
    (fun s _ => by walk_at "vl") (fun s hs hm => by
      have h0 : s.2 ≠ 0 := by intro e; rw [e] at hm; simp at hm
      refine ⟨?_, ?_, Nat.mod_lt _ (by omega)⟩
      · walk_at "vl"
        simp only [mod_ok (show (0 : Int) < (s.2 : Int) by omega)]
        walk_at "vl"
        rfl
      · rw [← hs]; exact gcd_step _ _ h0) fuel (a.natAbs, b.natAbs) rfl (fuel_big hb)
  simp only [h3]
  walk_at "vl"
  have h0 : y = 0 := by simpa using h2
  subst h0
  rw [← h1, Nat.gcd_zero_right]

/-! ### _law_same -/
theorem same_int (n : Nat) (a b : Int) : Mr__law_same (n + 1) [.int a, .int b] = some (.bool (decide (a = b))) := by
  show runD false 3 [true, true] (b__law_same (Mr__law_same n)) _ = _
  unfold b__law_same
  have q := law_num_int
  walk_at "vlh"
theorem dNone_tuple (l : List D) : cIsN (.tuple l) .none = some false := rfl
theorem dNone_list (l : List D) : cIsN (.list l) .none = some false := rfl
theorem same_pt (n : Nat) (p q : Pt) : Mr__law_same (n + 2) [pt p, pt q] = some (.bool (decide (p = q))) := by
  show runD false 3 [true, true] (b__law_same (Mr__law_same (n + 1))) _ = _
  unfold b__law_same
  have h := same_int n
  have h2 := dNone_tuple
  simp only [pt]
  have h3 : kR1 (.int 2) = some [.int 0, .int 1] := kR1_ok (n := 2) (by omega)
  walk_at "vlh"
  obtain ⟨a, b⟩ := p
  obtain ⟨c, d⟩ := q
  by_cases e1 : a = c <;> by_cases e2 : b = d <;> walk_at "vlh" <;> simp [e1, e2]
theorem same_pts (n : Nat) (F G : List Pt) (hG : G.length < 1000000) : Mr__law_same (n + 3) [pts F, pts G] = some (.bool (decide (F = G))) := by
  show runD false 3 [true, true] (b__law_same (Mr__law_same (n + 2))) _ = _
  unfold b__law_same
  have h := same_pt n
  have h2 := dNone_list
  have h3 : kR1 (.int (G.length : Nat)) = _ := kR1_ok (by omega)
  by_cases e : (F.length : Int) = (G.length : Int)
  · have e' : F.length = G.length := by omega
    walk_at "vlh"
    have look := goFor_look (T := .n 2) (body := dSeq (dIf (dNot (ofB (kCall (Mr__law_same (n + 2)) (aCons (d2 kIx (rdO 0) (rdO 2)) (aCons (d2 kIx (rdO 1) (rdO 2)) aNil))))) (dRet (dC (PyData.bool false))) dNx) (ghost (kill [2]) dNx))
      (fun (i : Nat) => PyData.int (i : Nat)) (List.range G.length) [some (.b (pts F)), some (.b (pts G)), none] (fun i => decide (F[i]? = G[i]?)) (.bool false) fun i hi => by
        have hi' : i < G.length := List.mem_range.mp hi
        have hF : i < F.length := by omega
        refine ⟨_, rfl, ?_⟩
        have a1 := ix_map pt (atI_lt hF)
        have a2 := ix_map pt (atI_lt hi')
        rw [List.getElem?_eq_getElem hF, List.getElem?_eq_getElem hi']
        walk_at "vlh"
        by_cases e1 : F[i] = G[i] <;> simp [e1]
    simp only [look]
    by_cases e2 : F = G
    · subst e2
      simp
    · have hb : (List.range G.length).all (fun i => decide (F[i]? = G[i]?)) = false := by
        cases hb : (List.range G.length).all (fun i => decide (F[i]? = G[i]?)) with
        | false => rfl
        | true =>
          exfalso
          apply e2
          apply List.ext_getElem?
          intro i
          by_cases hi : i < G.length
          · have := List.all_eq_true.mp hb i (List.mem_range.mpr hi)
            exact of_decide_eq_true this
          · rw [List.getElem?_eq_none (by omega), List.getElem?_eq_none (by omega)]
      simp [hb, e2]
  · have e2 : F ≠ G := by rintro rfl; exact e rfl
    walk_at "vlh"
/-! ### the fan -/
theorem r3_ok (L : Nat) (h2 : 2 ≤ L) (h3 : L < 1000000) : kR3 (.int ((L : Int) - 2)) (.int 0) (.int (-1)) = some ((List.range (L - 2)).map fun (i : Nat) => PyData.int (((L : Int) - 2) + (i : Nat) * (-1))) := by
  have t : turns ((L : Int) - 2) 0 (-1) = L - 2 := by
    unfold turns
    rw [if_neg (by omega), if_pos (by omega)]
    have e1 : - (-1 : Int) = 1 := rfl
    rw [e1, Int.ediv_one]; omega
  show (if cR3 _ _ _ = true then some (sgD _ _ (turns _ _ _)) else none) = _
  rw [if_pos, t]
  · rfl
  · unfold cR3
    have rg := RgC.neg (i := (L : Int) - 2) (j := 0) (by omega) (by omega) (by omega) (by omega)
    obtain ⟨c0, c1, c2, c3⟩ := rg
    rw [t]
    simp only [Bool.and_eq_true, decide_eq_true_eq]
    refine ⟨⟨⟨by decide, by decide⟩, c2⟩, ?_⟩
    rw [c3]
    congr 1
    omega
def flip (p : Pt) : Pt := (p.2, p.1)
theorem quarter_eq (n : Int) (E : List Pt) (h : M_first_eighth [.int n] = some (pts E)) (h2 : 2 ≤ E.length) (h3 : E.length < 1000000) :
    M_first_quarter [.int n] = some (pts (E ++ (List.range (E.length - 2)).map fun k => flip (E[E.length - 2 - k]?.getD (0, 0)))) := by
  unfold M_first_quarter b_first_quarter
  have r3 := r3_ok E.length h2 h3
  walk_at "vlh"
  have go := goFor_pre (T := .n 3) (body := dSeq (dApp 2 (toT (aCons (d2 kIx (d2 kIx (rdO 1) (rdO 3)) (dC (.int 1))) (aCons (d2 kIx (d2 kIx (rdO 1) (rdO 3)) (dC (.int 0))) aNil)))) (ghost (kill [3]) dNx))
    (fun (i : Nat) => PyData.int (((E.length : Int) - 2) + (i : Nat) * (-1))) (List.range (E.length - 2)) (fun done => [none, some (.v (pts E)), some (.o ((E ++ done.map fun k => flip (E[E.length - 2 - k]?.getD (0, 0))).map pt)), none]) fun done k rest e => by
      have hk : k < E.length - 2 := List.mem_range.mp (by rw [e]; simp)
      have hd : done.length ≤ E.length := by
        have := congrArg List.length e
        simp at this
        omega
      have hj : E.length - 2 - k < E.length := by omega
      have a1 : kIx (.list (E.map pt)) (.int (((E.length : Int) - 2) + (k : Nat) * (-1))) = some (pt E[E.length - 2 - k]) := by
        have e0 : ((E.length : Int) - 2) + (k : Nat) * (-1) = ((E.length - 2 - k : Nat) : Int) := by omega
        rw [e0]
        exact ix_map pt (atI_lt hj)
      have hz : E.length + done.length < sizeD := by
        rw [sizeD_eq]; omega
      refine ⟨_, rfl, .inl ?_⟩
      walk_at "vlh"
      simp [List.getElem?_eq_getElem hj, flip, pt, hz]
  have e0 : E ++ ([] : List Nat).map (fun k => flip (E[E.length - 2 - k]?.getD (0, 0))) = E := by simp
  simp only [e0] at go
  simp only [go]
  walk_at "vlh"
def turnQ (p : Pt) : Pt := (-p.2, p.1)
def four (q : List Pt) : List Pt := q ++ (q.map turnQ ++ (q.map (turnQ ∘ turnQ) ++ q.map (turnQ ∘ turnQ ∘ turnQ)))
theorem turn_lc (q : List Pt) (a b c d : Option Sl) : goLc (.t [4, 5]) dYes (toT (aCons (d1 kNeg (rdO 5)) (aCons (rdE 4) aNil))) [a, b, c, d, none, none] (q.map pt) = some ((q.map turnQ).map pt) := by
  rw [goLc_map pt (fun p => pt (turnQ p)) q (fun p _ => ⟨_, by simp only [pt]; walk_at "vl"; rfl, rfl, by walk_at "vl"; rfl⟩), List.map_map]
  rfl
theorem fan_eq (n : Int) (q : List Pt) (h : M_first_quarter [.int n] = some (pts q)) (h3 : q.length < 100000) : M_farey_fan [.int n] = some (pts (four q)) := by
  unfold M_farey_fan b_farey_fan
  have r1 : kR1 (.int 4) = some [.int 0, .int 1, .int 2, .int 3] := kR1_ok (n := 4) (by omega)
  have z0 : (q.map pt).length ≤ sizeD := by rw [sizeD_eq, List.length_map]; omega
  have z1 : q.length ≤ sizeD := by rw [sizeD_eq]; omega
  have z2 : q.length + q.length ≤ sizeD := by rw [sizeD_eq]; omega
  have z3 : q.length + q.length + q.length ≤ sizeD := by rw [sizeD_eq]; omega
  have z4 : q.length + q.length + q.length + q.length ≤ sizeD := by rw [sizeD_eq]; omega
  have lc := fun (g : Pt → Pt) (a b c d : Option Sl) => turn_lc (q.map g) a b c d
  have lc0 := fun (a b c d : Option Sl) => turn_lc q a b c d
  simp only [List.map_map] at lc lc0
  walk_at "vlh"
  simp [four, List.append_assoc, Function.comp_def]
/-! ### counts -/
theorem many_eq (n : Nat) (hn : n < 1000000) : M__law_many [.int n] = some (.int ((((List.range (2 * n + 1)).map fun (x : Nat) => ((List.range (2 * n + 1)).filter fun (y : Nat) => decide (Nat.gcd ((x : Int) - n).natAbs ((y : Int) - n).natAbs = 1)).length).sum : Nat))) := by
  unfold M__law_many b__law_many
  have r2 : kR2 (.int (-(n : Int))) (.int ((n : Int) + 1)) = some ((List.range (2 * n + 1)).map fun (i : Nat) => PyData.int (-(n : Int) + (i : Nat))) := by
    rw [kR2_ok (by omega) (by omega) (by omega) (by omega)]
    have e : ((n : Int) + 1 - -(n : Int)).toNat = 2 * n + 1 := by omega
    rw [e]
  walk_at "vlh"
  have inner := fun (x c : Int) (hx : x.natAbs < 1000000000) => goFor_pre (T := .n 3) (body := dSeq (dIf (d2 cEq (kCall M__law_gcd (aCons (rdE 2) (aCons (rdE 3) aNil))) (dC (PyData.int 1))) (dSet 1 (d2 kAdd (rdO 1) (dC (PyData.int 1)))) dNx) (ghost (kill [3]) dNx))
    (fun (i : Nat) => PyData.int (-(n : Int) + (i : Nat))) (List.range (2 * n + 1)) (fun done => [some (.v (.int (n : Nat))), some (.v (.int (c + ((done.filter fun (y : Nat) => decide (Nat.gcd x.natAbs ((y : Int) - n).natAbs = 1)).length : Nat)))), some (.v (.int x)), none]) fun done y rest e => by
      have hy : y < 2 * n + 1 := List.mem_range.mp (by rw [e]; simp)
      have g := law_gcd_eq x (-(n : Int) + (y : Nat)) (by omega)
      have e0 : -(n : Int) + (y : Nat) = (y : Int) - n := by omega
      rw [e0] at g ⊢
      refine ⟨_, rfl, .inl ?_⟩
      clear e
      walk_at "vlh"
      by_cases q : (Nat.gcd x.natAbs ((y : Int) - n).natAbs) = 1
      · simp [q, List.filter_append, List.filter_cons]; omega
      · have q' : ¬ ((Nat.gcd x.natAbs ((y : Int) - n).natAbs : Nat) : Int) = 1 := by omega
        simp [q, q', List.filter_append, List.filter_cons]
  have outer := goFor_pre (T := .n 2) (body := dSeq (dFor (d2 kR2 (d1 kNeg (rdO 0)) (d2 kAdd (rdO 0) (dC (PyData.int 1)))) (.n 3) (dSeq (dIf (d2 cEq (kCall M__law_gcd (aCons (rdE 2) (aCons (rdE 3) aNil))) (dC (PyData.int 1))) (dSet 1 (d2 kAdd (rdO 1) (dC (PyData.int 1)))) dNx) (ghost (kill [3]) dNx))) (ghost (kill [2, 3]) dNx))
    (fun (i : Nat) => PyData.int (-(n : Int) + (i : Nat))) (List.range (2 * n + 1)) (fun done => [some (.v (.int (n : Nat))), some (.v (.int ((done.map fun (x : Nat) => ((List.range (2 * n + 1)).filter fun (y : Nat) => decide (Nat.gcd ((x : Int) - n).natAbs ((y : Int) - n).natAbs = 1)).length).sum : Nat))), none, none]) fun done x rest e => by
      have hx : x < 2 * n + 1 := List.mem_range.mp (by rw [e]; simp)
      have i1 := inner ((x : Int) - n) ((done.map fun (x : Nat) => ((List.range (2 * n + 1)).filter fun (y : Nat) => decide (Nat.gcd ((x : Int) - n).natAbs ((y : Int) - n).natAbs = 1)).length).sum : Nat) (by omega)
      simp only [List.filter_nil, List.length_nil] at i1
      have e0 : -(n : Int) + (x : Nat) = (x : Int) - n := by omega
      rw [e0]
      refine ⟨_, rfl, .inl ?_⟩
      have e1 : (((done.map fun (x : Nat) => ((List.range (2 * n + 1)).filter fun (y : Nat) => decide (Nat.gcd ((x : Int) - n).natAbs ((y : Int) - n).natAbs = 1)).length).sum : Nat) : Int) + ((0 : Nat) : Int) = ((done.map fun (x : Nat) => ((List.range (2 * n + 1)).filter fun (y : Nat) => decide (Nat.gcd ((x : Int) - n).natAbs ((y : Int) - n).natAbs = 1)).length).sum : Nat) := by omega
      rw [e1] at i1
      clear inner e
      walk_at "vlh"
      simp [List.map_append, List.sum_append]
  simp only [List.map_nil, List.sum_nil] at outer
  have e2 : ((0 : Nat) : Int) = 0 := rfl
  rw [e2] at outer
  simp only [outer]
  walk_at "vl"

/-! ### cyclic walks -/
def prevs (F : List Pt) : List Pt := match F.getLast? with
  | some l => l :: F
  | none => []
def nexts (F : List Pt) : List Pt := match F with
  | [] => []
  | p :: r => r ++ [p]
theorem prev_at (F : List Pt) {k : Nat} (hk : k < F.length) : ∃ p, (prevs F)[k]? = some p ∧ kIx (pts F) (.int ((k : Int) - 1)) = some (pt p) := by
  have hne : F ≠ [] := by rintro rfl; simp at hk
  unfold prevs
  rw [List.getLast?_eq_some_getLast hne]
  cases k with
  | zero =>
    refine ⟨_, rfl, ix_map pt ?_⟩
    rw [List.getLast_eq_getElem]
    exact atI_neg (by omega) _ (by omega)
  | succ k =>
    refine ⟨F[k], ?_, ix_map pt ?_⟩
    · show (F.getLast hne :: F)[k + 1]? = _
      rw [List.getElem?_cons_succ, List.getElem?_eq_getElem]
    · have e : ((k + 1 : Nat) : Int) - 1 = (k : Int) := by omega
      rw [e]
      exact atI_lt (by omega)
theorem next_at (F : List Pt) {k : Nat} (hk : k < F.length) : ∃ p, (nexts F)[k]? = some p ∧ kIx (pts F) (.int (((k : Int) + 1) % (F.length : Nat))) = some (pt p) := by
  cases F with
  | nil => simp at hk
  | cons a r =>
    by_cases q : k + 1 < (a :: r).length
    · refine ⟨(a :: r)[k + 1], ?_, ix_map pt ?_⟩
      · show (r ++ [a])[k]? = _
        have : k < r.length := by simpa using q
        rw [List.getElem?_append_left this, List.getElem_cons_succ, List.getElem?_eq_getElem]
      · have e : ((k : Int) + 1) % ((a :: r).length : Nat) = ((k + 1 : Nat) : Int) := by
          rw [Int.emod_eq_of_lt (by omega) (by omega)]
          omega
        rw [e]
        exact atI_lt q
    · have e1 : k = r.length := by simp at hk q; omega
      refine ⟨a, ?_, ix_map pt ?_⟩
      · show (r ++ [a])[k]? = _
        subst e1
        simp
      · have e : ((k : Int) + 1) % ((a :: r).length : Nat) = ((0 : Nat) : Int) := by
          have : ((k : Int) + 1) = ((a :: r).length : Nat) := by simp; omega
          rw [this, Int.emod_self]
          rfl
        rw [e]
        exact atI_lt (by simp)
def cr (p q : Pt) : Int := p.1 * q.2 - p.2 * q.1
def Sml (F : List Pt) : Prop := ∀ p ∈ F, -1000000000000 ≤ p.1 ∧ p.1 ≤ 1000000000000 ∧ -1000000000000 ≤ p.2 ∧ p.2 ≤ 1000000000000
theorem prevs_mem {F : List Pt} {p : Pt} {k : Nat} (h : (prevs F)[k]? = some p) : p ∈ F := by
  have hm := List.mem_of_getElem? h
  unfold prevs at hm
  split at hm
  · rename_i l e
    rcases List.mem_cons.mp hm with rfl | z
    · exact List.mem_of_getLast? e
    · exact z
  · simp at hm
theorem nexts_mem {F : List Pt} {p : Pt} {k : Nat} (h : (nexts F)[k]? = some p) : p ∈ F := by
  have hm := List.mem_of_getElem? h
  unfold nexts at hm
  cases F with
  | nil => simp at hm
  | cons a r => simp at hm; simp; rcases hm with z | z; exact .inr z; exact .inl z
/-- the times that the fan's steps go up through the half line -/
def ups (F : List Pt) : Nat := (((prevs F).zip F).filter fun q => decide (q.1.2 < 0) && decide (0 ≤ q.2.2)).length
theorem take_succ_filter {α : Type} (t : α → Bool) (l : List α) (k : Nat) (x : α) (h : l[k]? = some x) : ((l.take (k + 1)).filter t).length = ((l.take k).filter t).length + if t x = true then 1 else 0 := by
  rw [List.take_succ, h]
  simp [List.filter_append, List.filter_cons]
  split <;> simp
theorem round_eq (F : List Pt) (hl : F.length < 1000000) (hF : Sml F) (hc : ∀ q ∈ (prevs F).zip F, cr q.1 q.2 = 1) : M__law_goes_round [pts F] = some (.bool (decide (ups F = 1))) := by
  unfold M__law_goes_round b__law_goes_round
  have r1 : kR1 (.int (F.length : Nat)) = _ := kR1_ok (by omega)
  walk_at "vlh"
  have lz : (prevs F).length = F.length + 1 ∨ F = [] := by
    cases F with
    | nil => exact .inr rfl
    | cons a r => left; unfold prevs; rw [List.getLast?_eq_some_getLast (by simp)]; rfl
  have go := goFor_rng0 (T := .n 2) (body := dSeq (dIf (d2 cNe (kCall M__law_cross (aCons (d2 kIx (rdO 0) (d2 kSub (rdO 2) (dC (.int 1)))) (aCons (d2 kIx (rdO 0) (rdO 2)) aNil))) (dC (.int 1))) (dRet (dC (.bool false))) dNx) (dSeq (dIf (dAnd (d2 cLt (d2 kIx (d2 kIx (rdO 0) (d2 kSub (rdO 2) (dC (.int 1)))) (dC (.int 1))) (dC (.int 0))) (d2 cGe (d2 kIx (d2 kIx (rdO 0) (rdO 2)) (dC (.int 1))) (dC (.int 0)))) (dSet 1 (d2 kAdd (rdO 1) (dC (.int 1)))) dNx) (ghost (kill [2]) dNx)))
    F.length (fun k => [some (.b (pts F)), some (.v (.int (((((prevs F).zip F).take k).filter fun q => decide (q.1.2 < 0) && decide (0 ≤ q.2.2)).length : Nat))), none]) fun k hk => by
      obtain ⟨p, h1, h2⟩ := prev_at F hk
      have h3 := ix_map pt (atI_lt hk)
      obtain ⟨b1, b2, b3, b4⟩ := hF p (prevs_mem h1)
      obtain ⟨b5, b6, b7, b8⟩ := hF F[k] (List.getElem_mem hk)
      have c1 := law_cross_eq p F[k] (sm_of (by omega) (by omega)) (sm_of (by omega) (by omega)) (sm_of (by omega) (by omega)) (sm_of (by omega) (by omega))
      have hz : ((prevs F).zip F)[k]? = some (p, F[k]) := by
        rw [List.getElem?_zip_eq_some]
        exact ⟨h1, List.getElem?_eq_getElem hk⟩
      have hc1 := hc _ (List.mem_of_getElem? hz)
      unfold cr at hc1
      simp only [hc1] at c1
      refine ⟨_, rfl, .inl ?_⟩
      rw [take_succ_filter _ _ k _ hz]
      clear r1 hc
      walk_at "vlh"
      by_cases q1 : p.2 < 0 <;> by_cases q2 : 0 ≤ F[k].2 <;> simp [q1, q2]
  simp only [List.take_zero, List.filter_nil, List.length_nil] at go
  have e2 : ((0 : Nat) : Int) = 0 := rfl
  rw [e2] at go
  simp only [go]
  have tk : ((prevs F).zip F).take F.length = (prevs F).zip F := by
    apply List.take_of_length_le
    rw [List.length_zip]
    omega
  rw [tk]
  walk_at "vl"
  unfold ups
  by_cases q : (((prevs F).zip F).filter fun q => decide (q.1.2 < 0) && decide (0 ≤ q.2.2)).length = 1
  · simp [q]
  · simp [q]
    omega

theorem nexts_len (F : List Pt) : (nexts F).length = F.length := by
  cases F with
  | nil => rfl
  | cons a r => simp [nexts]
theorem map_range_zip {α : Type} (F : List Pt) (G : List Pt) (h : G.length = F.length) (f : Pt → Pt → α) : ((List.range F.length).map fun k => f (F[k]?.getD (0, 0)) (G[k]?.getD (0, 0))) = (F.zip G).map fun q => f q.1 q.2 := by
  apply List.ext_getElem?
  intro k
  by_cases hk : k < F.length
  · rw [List.getElem?_map, List.getElem?_range hk, List.getElem?_map]
    have : (F.zip G)[k]? = some (F[k], G[k]'(by omega)) := by
      rw [List.getElem?_zip_eq_some]
      exact ⟨List.getElem?_eq_getElem hk, List.getElem?_eq_getElem (by omega)⟩
    rw [this]
    simp [List.getElem?_eq_getElem hk, List.getElem?_eq_getElem (show k < G.length by omega)]
  · rw [List.getElem?_eq_none (by simp; omega), List.getElem?_eq_none (by simp [List.length_zip]; omega)]
theorem steps_eq (F : List Pt) (hl : F.length < 1000000) (hF : Sml F) : M_step_products [pts F] = some (nums ((F.zip (nexts F)).map fun q => cr q.1 q.2)) := by
  unfold M_step_products b_step_products
  have r1 : kR1 (.int (F.length : Nat)) = _ := kR1_ok (by omega)
  have z1 : (List.range F.length).length ≤ sizeD := by rw [sizeD_eq, List.length_range]; omega
  have z2 : F.length ≤ sizeD := by rw [sizeD_eq]; omega
  simp only [List.length_range] at z1
  have go := goLc_map (T := .n 1) (tt := dYes) (fe := kCall M_crossed (aCons (d2 kIx (rdO 0) (rdO 1)) (aCons (d2 kIx (rdO 0) (d2 kMod (d2 kAdd (rdO 1) (dC (.int 1))) (d1 kLen (rdO 0)))) aNil))) (env := [some (.b (pts F)), none])
    (fun (i : Nat) => PyData.int (i : Nat)) (fun k => .int (cr (F[k]?.getD (0, 0)) ((nexts F)[k]?.getD (0, 0)))) (List.range F.length) fun k hk => by
      have hk' : k < F.length := List.mem_range.mp hk
      obtain ⟨p, h1, h2⟩ := next_at F hk'
      have h3 := ix_map pt (atI_lt hk')
      obtain ⟨b1, b2, b3, b4⟩ := hF p (nexts_mem h1)
      obtain ⟨b5, b6, b7, b8⟩ := hF F[k] (List.getElem_mem hk')
      have c1 := crossed_eq F[k] p (sm_of (by omega) (by omega)) (sm_of (by omega) (by omega)) (sm_of (by omega) (by omega)) (sm_of (by omega) (by omega))
      have m1 : kMod (.int ((k : Int) + 1)) (.int (F.length : Nat)) = _ := mod_ok (by omega)
      refine ⟨_, rfl, rfl, ?_⟩
      rw [List.getElem?_eq_getElem hk', h1]
      clear r1
      walk_at "vlh"
      rfl
  have e : (List.range F.length).map (fun k => PyData.int (cr (F[k]?.getD (0, 0)) ((nexts F)[k]?.getD (0, 0)))) = ((F.zip (nexts F)).map fun q => cr q.1 q.2).map PyData.int := by
    rw [List.map_map]
    exact map_range_zip F (nexts F) (nexts_len F) fun p q => PyData.int (cr p q)
  rw [e] at go
  walk_at "vlh"
  simp [z2]
def upper (p : Pt) : Bool := decide (0 < p.2) || (decide (p.2 = 0) && decide (0 < p.1))
theorem rounds_eq (F : List Pt) (hl : F.length < 1000000) : M_rounds [pts F] = some (.int ((((prevs F).zip F).filter fun q => upper q.2 && !upper q.1).length : Nat)) := by
  unfold M_rounds b_rounds
  have r1 : kR1 (.int (F.length : Nat)) = _ := kR1_ok (by omega)
  walk_at "vlh"
  have lz : (prevs F).length = F.length + 1 ∨ F = [] := by
    cases F with
    | nil => exact .inr rfl
    | cons a r => left; unfold prevs; rw [List.getLast?_eq_some_getLast (by simp)]; rfl
  have go := goFor_rng0 (T := .n 2) (body := dSeq (dIf (dAnd (ofB (kCall M_is_upper (aCons (d2 kIx (rdO 0) (rdO 2)) aNil))) (dNot (ofB (kCall M_is_upper (aCons (d2 kIx (rdO 0) (d2 kSub (rdO 2) (dC (.int 1)))) aNil))))) (dSet 1 (d2 kAdd (rdO 1) (dC (.int 1)))) dNx) (ghost (kill [2]) dNx))
    F.length (fun k => [some (.b (pts F)), some (.v (.int (((((prevs F).zip F).take k).filter fun q => upper q.2 && !upper q.1).length : Nat))), none]) fun k hk => by
      obtain ⟨p, h1, h2⟩ := prev_at F hk
      have h3 := ix_map pt (atI_lt hk)
      have c1 : ∀ p, M_is_upper [pt p] = some (.bool (upper p)) := upper_eq
      have hz : ((prevs F).zip F)[k]? = some (p, F[k]) := by
        rw [List.getElem?_zip_eq_some]
        exact ⟨h1, List.getElem?_eq_getElem hk⟩
      refine ⟨_, rfl, .inl ?_⟩
      rw [take_succ_filter _ _ k _ hz]
      clear r1
      walk_at "vlh"
      cases q1 : upper F[k] <;> cases q2 : upper p <;> simp [q1, q2]
  simp only [List.take_zero, List.filter_nil, List.length_nil] at go
  have e2 : ((0 : Nat) : Int) = 0 := rfl
  rw [e2] at go
  simp only [go]
  have tk : ((prevs F).zip F).take F.length = (prevs F).zip F := by
    apply List.take_of_length_le
    rw [List.length_zip]
    omega
  rw [tk]
  walk_at "vl"

theorem prim_eq (p : Pt) (h : p.2.natAbs < 1000000000000000000000000000000000000000000000000000000000000) : M_is_primitive [pt p] = some (.bool (decide (Nat.gcd p.1.natAbs p.2.natAbs = 1))) := by
  have g : M_divisor_of [.int p.1, .int p.2] = some (.int (Nat.gcd p.1.natAbs p.2.natAbs : Nat)) := by
    unfold M_divisor_of b_divisor_of
    walk_at "vl"
    obtain ⟨⟨x, y⟩, h1, h2, h3⟩ := goW_inv (c := d2 cNe (rdO 1) (dC (.int 0))) (body := dPar [0, 1] (aCons (rdE 1) (aCons (d2 kMod (rdO 0) (rdO 1)) aNil)))
      (fun s : Nat × Nat => [some (.v (.int (s.1 : Nat))), some (.v (.int (s.2 : Nat)))]) (fun s => Nat.gcd s.1 s.2 = Nat.gcd p.1.natAbs p.2.natAbs) (fun s => s.2) (fun s => (s.2, s.1 % s.2)) (fun s => !decide ((s.2 : Int) = 0))
      (fun s _ => by walk_at "vl") (fun s hs hm => by
        have h0 : s.2 ≠ 0 := by intro e; rw [e] at hm; simp at hm
        refine ⟨?_, ?_, Nat.mod_lt _ (by omega)⟩
        · have m1 : kMod (.int (s.1 : Nat)) (.int (s.2 : Nat)) = _ := mod_ok (show (0 : Int) < (s.2 : Int) by omega)
          clear hm hs
          walk_at "vlh"
          rfl
        · rw [← hs]; exact gcd_step _ _ h0) fuel (p.1.natAbs, p.2.natAbs) rfl (fuel_big h)
    simp only [h3]
    walk_at "vl"
    have h0 : y = 0 := by simpa using h2
    subst h0
    rw [← h1, Nat.gcd_zero_right]
  unfold M_is_primitive b_is_primitive
  walk_at "vlh"
  by_cases q : Nat.gcd p.1.natAbs p.2.natAbs = 1
  · simp [q]
  · have q' : ¬ ((Nat.gcd p.1.natAbs p.2.natAbs : Nat) : Int) = 1 := by omega
    simp [q, q']
theorem nums_min (l : List Int) (a : Int) (r : List Int) (e : l = a :: r) : kMin (nums l) = some (.int (minI r a)) := by
  subst e
  show (match ints? ((a :: r).map PyData.int) with | some (n :: ns) => some (PyData.int (minI ns n)) | _ => none) = _
  rw [ints?_map]
theorem nums_max (l : List Int) (a : Int) (r : List Int) (e : l = a :: r) : kMax (nums l) = some (.int (maxI r a)) := by
  subst e
  show (match ints? ((a :: r).map PyData.int) with | some (n :: ns) => some (PyData.int (maxI ns n)) | _ => none) = _
  rw [ints?_map]
def stepsL (F : List Pt) : List Int := (F.zip (nexts F)).map fun q => cr q.1 q.2
theorem ones_min {l : List Int} (h : ∀ x ∈ l, x = 1) (hn : l ≠ []) : kMin (nums l) = some (.int 1) := by
  match l, hn with
  | a :: r, _ =>
    rw [nums_min _ a r rfl]
    have q := minI_spec r a
    have e : minI r a = 1 := by
      rcases q.1 with z | z
      · rw [z]; exact h _ List.mem_cons_self
      · exact h _ (List.mem_cons_of_mem _ z)
    rw [e]
theorem ones_max {l : List Int} (h : ∀ x ∈ l, x = 1) (hn : l ≠ []) : kMax (nums l) = some (.int 1) := by
  match l, hn with
  | a :: r, _ =>
    rw [nums_max _ a r rfl]
    have q := maxI_spec r a
    have e : maxI r a = 1 := by
      rcases q.1 with z | z
      · rw [z]; exact h _ List.mem_cons_self
      · exact h _ (List.mem_cons_of_mem _ z)
    rw [e]
def roundN (F : List Pt) : Nat := (((prevs F).zip F).filter fun q => upper q.2 && !upper q.1).length
theorem fan_true (F : List Pt) (hl : F.length < 1000000) (h3 : 3 ≤ F.length) (hF : Sml F) (hp : ∀ p ∈ F, Nat.gcd p.1.natAbs p.2.natAbs = 1) (hs : ∀ x ∈ stepsL F, x = 1) (hr : roundN F = 1) : M_is_fan [pts F] = some (.bool true) := by
  unfold M_is_fan b_is_fan
  have hsn : stepsL F ≠ [] := by
    intro e
    have := congrArg List.length e
    unfold stepsL at this
    rw [List.length_map, List.length_zip, nexts_len, Nat.min_self, List.length_nil] at this
    omega
  have s1 := steps_eq F hl hF
  have s2 := ones_min hs hsn
  have s3 := rounds_eq F hl
  have e3 : (((prevs F).zip F).filter fun q => upper q.2 && !upper q.1).length = 1 := hr
  rw [e3] at s3
  unfold stepsL at s2
  have look := goFor_look (T := .n 1) (body := dSeq (dIf (dOr (dNot (ofB (kCall M_is_vector (aCons (rdE 1) aNil)))) (dNot (ofB (kCall M_is_primitive (aCons (rdE 1) aNil))))) (dRet (dC (.bool false))) dNx) (ghost (kill [1]) dNx))
    pt F [some (.b (pts F)), none] (fun _ => true) (.bool false) fun p hm => by
      have q := vector_pt
      obtain ⟨_, _, _, _⟩ := hF p hm
      have q2 : M_is_primitive [pt p] = some (.bool true) := by
        rw [prim_eq p (by omega)]
        simp [hp p hm]
      refine ⟨_, rfl, ?_⟩
      clear s1 s2 s3 hs
      walk_at "vlh"
  rw [allT, if_pos rfl] at look
  have hl3 : ¬ (F.length : Int) < 3 := by omega
  clear hs hF hp
  walk_at "vlh"
theorem smooth_true (F : List Pt) (hl : F.length < 1000000) (h3 : 3 ≤ F.length) (hF : Sml F) (hs : ∀ x ∈ stepsL F, x = 1) : M_is_smooth [pts F] = some (.bool true) := by
  unfold M_is_smooth b_is_smooth
  have hsn : stepsL F ≠ [] := by
    intro e
    have := congrArg List.length e
    unfold stepsL at this
    rw [List.length_map, List.length_zip, nexts_len, Nat.min_self, List.length_nil] at this
    omega
  have s1 := steps_eq F hl hF
  have s2 := ones_max hs hsn
  unfold stepsL at s2
  clear hs hF
  walk_at "vlh"
def triples (F : List Pt) : List (Pt × Pt × Pt) := (prevs F).zip (F.zip (nexts F))
theorem numbers_eq (F : List Pt) (hl : F.length < 1000000) (hF : Sml F) : M_fan_numbers [pts F] = some (nums ((triples F).map fun q => cr q.1 q.2.2)) := by
  unfold M_fan_numbers b_fan_numbers
  have r1 : kR1 (.int (F.length : Nat)) = _ := kR1_ok (by omega)
  have z2 : F.length ≤ sizeD := by rw [sizeD_eq]; omega
  have go := goLc_map (T := .n 2) (tt := dYes) (fe := kCall M_crossed (aCons (d2 kIx (rdO 0) (d2 kSub (rdO 2) (dC (.int 1)))) (aCons (d2 kIx (rdO 0) (d2 kMod (d2 kAdd (rdO 2) (dC (.int 1))) (rdO 1))) aNil))) (env := [some (.b (pts F)), some (.v (.int (F.length : Nat))), none])
    (fun (i : Nat) => PyData.int (i : Nat)) (fun k => .int (cr ((prevs F)[k]?.getD (0, 0)) ((nexts F)[k]?.getD (0, 0)))) (List.range F.length) fun k hk => by
      have hk' : k < F.length := List.mem_range.mp hk
      obtain ⟨p, h1, h2⟩ := next_at F hk'
      obtain ⟨o, h4, h3⟩ := prev_at F hk'
      obtain ⟨b1, b2, b3, b4⟩ := hF p (nexts_mem h1)
      obtain ⟨b5, b6, b7, b8⟩ := hF o (prevs_mem h4)
      have c1 := crossed_eq o p (sm_of (by omega) (by omega)) (sm_of (by omega) (by omega)) (sm_of (by omega) (by omega)) (sm_of (by omega) (by omega))
      have m1 : kMod (.int ((k : Int) + 1)) (.int (F.length : Nat)) = _ := mod_ok (by omega)
      refine ⟨_, rfl, rfl, ?_⟩
      rw [h4, h1]
      clear r1
      walk_at "vlh"
      rfl
  have e : (List.range F.length).map (fun k => PyData.int (cr ((prevs F)[k]?.getD (0, 0)) ((nexts F)[k]?.getD (0, 0)))) = ((triples F).map fun q => cr q.1 q.2.2).map PyData.int := by
    rw [List.map_map]
    apply List.ext_getElem?
    intro k
    have lz : (prevs F).length = F.length + 1 ∨ F = [] := by
      cases F with
      | nil => exact .inr rfl
      | cons a r => left; unfold prevs; rw [List.getLast?_eq_some_getLast (by simp)]; rfl
    by_cases hk : k < F.length
    · obtain ⟨p, h1, h2⟩ := next_at F hk
      obtain ⟨o, h4, h3⟩ := prev_at F hk
      have : (triples F)[k]? = some (o, F[k], p) := by
        unfold triples
        rw [List.getElem?_zip_eq_some, List.getElem?_zip_eq_some]
        exact ⟨h4, List.getElem?_eq_getElem hk, h1⟩
      rw [List.getElem?_map, List.getElem?_range hk, List.getElem?_map, this, Option.map_some, h1, h4]
      rfl
    · rw [List.getElem?_eq_none (by simp; omega), List.getElem?_eq_none (by unfold triples; simp [List.length_zip]; omega)]
  rw [e] at go
  walk_at "vlh"
  simp [z2]

def rot : Nat → Pt → Pt
  | 0, p => p
  | k + 1, p => ((rot k p).2, -(rot k p).1)
def inPart (p : Pt) (k : Nat) : Bool := if k % 2 = 1 then decide (0 ≤ (rot (k / 2) p).1) && decide ((rot (k / 2) p).1 ≤ (rot (k / 2) p).2) else decide (0 ≤ (rot (k / 2) p).2) && decide ((rot (k / 2) p).2 ≤ (rot (k / 2) p).1)
theorem part_eq (p : Pt) (k : Nat) (hk : k < 1000) : M__law_in_part [pt p, .int (k : Nat)] = some (.bool (inPart p k)) := by
  unfold M__law_in_part b__law_in_part
  have d1' : kDiv (.int (k : Nat)) (.int 2) = some (.int ((k / 2 : Nat) : Int)) := by
    rw [div_ok (by omega) (by decide +kernel)]
    congr 2
  have r1 : kR1 (.int ((k / 2 : Nat) : Int)) = _ := kR1_ok (by omega)
  have m1 : kMod (.int (k : Nat)) (.int 2) = some (.int ((k % 2 : Nat) : Int)) := by
    rw [mod_ok (by omega)]
    congr 2
  have go := goFor_rng0 (T := .n 4) (body := dSeq (dPar [2, 3] (aCons (rdE 3) (aCons (d1 kNeg (rdO 2)) aNil))) (ghost (kill [4]) dNx))
    (k / 2) (fun j => [none, some (.v (.int (k : Nat))), some (.v (.int (rot j p).1)), some (.v (.int (rot j p).2)), none]) fun j _ => by
      refine ⟨_, rfl, .inl ?_⟩
      clear r1 d1' m1
      walk_at "vlh"
      rfl
  have e0 : rot 0 p = p := rfl
  rw [e0] at go
  simp only [pt]
  unfold inPart
  by_cases q : k % 2 = 1
  · have q' : ((k % 2 : Nat) : Int) = 1 := by omega
    rw [q'] at m1
    clear hk
    walk_at "vlh"
    by_cases q3 : 0 ≤ (rot (k / 2) p).1 <;> simp [q3]
  · have q' : ¬ ((k % 2 : Nat) : Int) = 1 := by omega
    clear hk
    walk_at "vlh"
    by_cases q3 : 0 ≤ (rot (k / 2) p).2 <;> simp [q3]
def sz (p : Pt) : Int := max (p.1.natAbs : Int) (p.2.natAbs : Int)
def numOk (q : Pt × Pt × Pt) : Bool :=
  decide (q.1.1 + q.2.2.1 = cr q.1 q.2.2 * q.2.1.1) && decide (q.1.2 + q.2.2.2 = cr q.1 q.2.2 * q.2.1.2) &&
    (List.range 8).all fun k => !(inPart q.1 k && inPart q.2.1 k && inPart q.2.2 k) || decide (cr q.1 q.2.2 * sz q.2.1 = sz q.1 + sz q.2.2)
theorem numbered_true (F : List Pt) (hl : F.length < 100000) (h3 : 3 ≤ F.length) (hF : Sml F) (hp : ∀ p ∈ F, Nat.gcd p.1.natAbs p.2.natAbs = 1) (hs : ∀ x ∈ stepsL F, x = 1) (hr : roundN F = 1) (hn : ∀ q ∈ triples F, numOk q = true) :
    M__law_numbered [pts F] = some (.bool true) := by
  unfold M__law_numbered b__law_numbered
  have c1 := fan_true F (by omega) h3 hF hp hs hr
  have c2 := smooth_true F (by omega) h3 hF hs
  have c3 := numbers_eq F (by omega) hF
  have c4 := law_numbers_eq ((triples F).map fun q => cr q.1 q.2.2)
  have lt : (triples F).length = F.length := by
    have lz : (prevs F).length = F.length + 1 ∨ F = [] := by
      cases F with
      | nil => exact .inr rfl
      | cons a r => left; unfold prevs; rw [List.getLast?_eq_some_getLast (by simp)]; rfl
    unfold triples
    rw [List.length_zip, List.length_zip, nexts_len]
    rcases lz with z | z
    · omega
    · subst z; simp at h3
  have r1 : kR1 (.int (F.length : Nat)) = _ := kR1_ok (by omega)
  have r8 : kR1 (.int 8) = _ := kR1_ok (n := 8) (by omega)
  have go := goFor_rng0 (T := .n 3) (body := (dSeq (dSet 4 (d2 kIx (rdO 0) (d2 kSub (rdO 3) (dC (.int 1)))))
  (dSeq (dSet 5 (d2 kIx (rdO 0) (d2 kMod (d2 kAdd (rdO 3) (dC (.int 1))) (d1 kLen (rdO 0)))))
  (dSeq (dIf (d2 cNe (toT (aCons (d2 kAdd (d2 kIx (rdO 4) (dC (.int 0))) (d2 kIx (rdO 5) (dC (.int 0)))) (aCons (d2 kAdd (d2 kIx (rdO 4) (dC (.int 1))) (d2 kIx (rdO 5) (dC (.int 1)))) aNil))) (toT (aCons (d2 kMul (d2 kIx (rdO 2) (rdO 3)) (d2 kIx (d2 kIx (rdO 0) (rdO 3)) (dC (.int 0)))) (aCons (d2 kMul (d2 kIx (rdO 2) (rdO 3)) (d2 kIx (d2 kIx (rdO 0) (rdO 3)) (dC (.int 1)))) aNil))))
  (dRet (dC (.bool false)))
  dNx)
  (dSeq (dSetF 6 (dLc (asL (toL (aCons (rdE 4) (aCons (d2 kIx (rdO 0) (rdO 3)) (aCons (rdE 5) aNil))))) (.n 8) dYes (d2 k2Max (d1 kAbs (d2 kIx (rdO 8) (dC (.int 0)))) (d1 kAbs (d2 kIx (rdO 8) (dC (.int 1))))) [8]))
  (ghost (fz 6) (dSeq (dFor (d1 kR1 (dC (.int 8))) (.n 7)
  (dSeq (dIf (dAnd (ofB (kCall M__law_in_part (aCons (rdE 4) (aCons (rdE 7) aNil)))) (dAnd (ofB (kCall M__law_in_part (aCons (d2 kIx (rdO 0) (rdO 3)) (aCons (rdE 7) aNil)))) (ofB (kCall M__law_in_part (aCons (rdE 5) (aCons (rdE 7) aNil))))))
  (dIf (d2 cNe (d2 kMul (d2 kIx (rdO 2) (rdO 3)) (d2 kIx (rdO 6) (dC (.int 1)))) (d2 kAdd (d2 kIx (rdO 6) (dC (.int 0))) (d2 kIx (rdO 6) (dC (.int 2)))))
  (dRet (dC (.bool false)))
  dNx)
  dNx)
  (ghost (kill [7]) dNx)))
  (ghost (kill [3, 4, 5, 6, 7]) dNx))))))))
    F.length (fun _ => [some (.b (pts F)), none, some (.v (nums ((triples F).map fun q => cr q.1 q.2.2))), none, none, none, none, none, none]) fun k hk => by
      obtain ⟨t, h1, h2⟩ := next_at F hk
      obtain ⟨o, h4, h5⟩ := prev_at F hk
      have h6 := ix_map pt (atI_lt hk)
      have ht : (triples F)[k]? = some (o, F[k], t) := by
        unfold triples
        rw [List.getElem?_zip_eq_some, List.getElem?_zip_eq_some]
        exact ⟨h4, List.getElem?_eq_getElem hk, h1⟩
      obtain ⟨b1, b2, b3, b4⟩ := hF t (nexts_mem h1)
      obtain ⟨b5, b6, b7, b8⟩ := hF o (prevs_mem h4)
      obtain ⟨a1, a2, a3, a4⟩ := hF F[k] (List.getElem_mem hk)
      have nk := hn _ (List.mem_of_getElem? ht)
      simp only [numOk, Bool.and_eq_true, decide_eq_true_eq, List.all_eq_true, Bool.or_eq_true, Bool.not_eq_true'] at nk
      obtain ⟨⟨n1, n2⟩, n3⟩ := nk
      have h7 : kIx (nums ((triples F).map fun q => cr q.1 q.2.2)) (.int (k : Nat)) = some (.int (cr o t)) := by
        refine ix_map PyData.int (atI_nat ?_)
        rw [List.getElem?_map, ht]
        rfl
      have m1 : kMod (.int ((k : Int) + 1)) (.int (F.length : Nat)) = _ := mod_ok (by omega)
      have sc : Sm (cr o t) := by
        unfold cr
        have e1 : (o.1 * t.2).natAbs ≤ 1000000000000 * 1000000000000 := by
          rw [Int.natAbs_mul]; exact Nat.mul_le_mul (by omega) (by omega)
        have e2 : (o.2 * t.1).natAbs ≤ 1000000000000 * 1000000000000 := by
          rw [Int.natAbs_mul]; exact Nat.mul_le_mul (by omega) (by omega)
        exact sm_of (by omega) (by omega)
      have p1 := mul_ok sc (show Sm F[k].1 from sm_of (by omega) (by omega))
      have p2 := mul_ok sc (show Sm F[k].2 from sm_of (by omega) (by omega))
      have p3 := mul_ok sc (show Sm (sz F[k]) by unfold sz; exact sm_of (by omega) (by omega))
      have l3 : (0 + 1 + 1 + 1 : Nat) ≤ sizeD := by rw [sizeD_eq]; omega
      refine ⟨_, rfl, .inl ?_⟩
      have look := goFor_look (T := .n 7) (body := (dSeq (dIf (dAnd (ofB (kCall M__law_in_part (aCons (rdE 4) (aCons (rdE 7) aNil)))) (dAnd (ofB (kCall M__law_in_part (aCons (d2 kIx (rdO 0) (rdO 3)) (aCons (rdE 7) aNil)))) (ofB (kCall M__law_in_part (aCons (rdE 5) (aCons (rdE 7) aNil))))))
  (dIf (d2 cNe (d2 kMul (d2 kIx (rdO 2) (rdO 3)) (d2 kIx (rdO 6) (dC (.int 1)))) (d2 kAdd (d2 kIx (rdO 6) (dC (.int 0))) (d2 kIx (rdO 6) (dC (.int 2)))))
  (dRet (dC (.bool false)))
  dNx)
  dNx)
  (ghost (kill [7]) dNx))) (fun (i : Nat) => PyData.int (i : Nat)) (List.range 8) [some (.b (pts F)), none, some (.v (nums ((triples F).map fun q => cr q.1 q.2.2))), some (.v (.int (k : Nat))), some (.v (pt o)), some (.v (pt t)), some (.v (.list [.int (sz o), .int (sz F[k]), .int (sz t)])), none, none] (fun _ => true) (.bool false) fun i hi => by
        have hi' : i < 8 := List.mem_range.mp hi
        have q1 := part_eq o i (by omega)
        have q2 := part_eq F[k] i (by omega)
        have q3 := part_eq t i (by omega)
        have n4 := n3 i hi
        refine ⟨_, rfl, ?_⟩
        clear n3 r1 r8 hn hF hp hs c1 c2 c3 c4 p1 p2 hi hi'
        cases g1 : inPart o i with
        | false => rw [g1] at q1; walk_at "vlh"
        | true =>
          cases g2 : inPart F[k] i with
          | false => rw [g1] at q1; rw [g2] at q2; walk_at "vlh"
          | true =>
            cases g3 : inPart t i with
            | false => rw [g1] at q1; rw [g2] at q2; rw [g3] at q3; walk_at "vlh"
            | true =>
              rw [g1] at q1; rw [g2] at q2; rw [g3] at q3
              rw [g1, g2, g3] at n4
              have n5 : cr o t * sz F[k] = sz o + sz t := by simpa using n4
              rw [n5] at p3
              clear n4
              walk_at "vlh"
      rw [allT, if_pos rfl] at look
      rw [n1.symm] at p1
      rw [n2.symm] at p2
      clear n3 hn hF hp hs c1 c2 c3 c4 p3 r1 n1 n2
      unfold sz at look
      walk_at "vlh"
  clear hn hF hp hs
  walk_at "vlh"
end VL

set_option Elab.async false
set_option linter.all false
set_option maxRecDepth 100000
set_option maxHeartbeats 4000000
set_option exponentiation.threshold 5000
namespace VL
open PySem L2
local macro_rules | `(tactic| walk_at "vl") => `(tactic| simp only [runD, goFor, goLc, mkEn_f, mkEn_t, mkEn_0, dSeq, dSet, dSetF, dRet, dRetF, dIf, dNx, dFor, dWhile, dPar, dAsg, dApp, dExt, dPut, dPop, dDrop, dPass, ghost, kill, fz, setT, setL, List.foldl_cons, List.foldl_nil, List.set_cons_zero, List.set_cons_succ, d1, d2, d3, rdO, rdE, rdS, rdF, dC, toB, ofB, dAnd, dOr, dNot, dAndV, dOrV, dNotV, dLc, dYes, wipeE, asL, asT, mul_ok, div_ok, mod_ok, add_ok, sub_ok, neg_ok, lt_ok, le_ok, gt_ok, ge_ok, eq_ok, ne_ok, isB_ok, nisB_ok, abs_ok, max2_ok, min2_ok, len_ok, lenT_ok, toList_ok, toInt_ok, rev_ok, eqPt_ok, nePt_ok, eqPts_ok, nePts_ok, eqInts_ok, neInts_ok, ix_p0, ix_p1, ix_l0, ix_l1, ix_l2, eq2_ok, ne2_ok, ix_t0, ix_t1, ix_t2, kIsiInt, kIsiBool, kIsiStr, kIsiList, kIsiTup, toT, toL, aCons, aNil, List.getElem?_cons_zero, List.getElem?_cons_succ, List.length_cons, List.length_nil, List.cons_append, List.nil_append, List.replicate, ↓reduceIte, Bool.false_eq_true, Bool.true_and, Bool.and_true, Bool.not_true, Bool.not_false, Bool.and_false, Bool.false_and, noL, kCall, List.length_map, List.length_append, Nat.sub_self, Nat.reduceSub, Nat.reduceAdd, Int.cast_ofNat_Int, Int.reduceEq, decide_true, decide_false, Nat.zero_add, Int.reduceLT, Int.reduceLE, Int.reduceAdd, Int.reduceNeg])
local macro_rules | `(tactic| walk_at "vlh") => `(tactic| simp only [runD, goFor, goLc, mkEn_f, mkEn_t, mkEn_0, dSeq, dSet, dSetF, dRet, dRetF, dIf, dNx, dFor, dWhile, dPar, dAsg, dApp, dExt, dPut, dPop, dDrop, dPass, ghost, kill, fz, setT, setL, List.foldl_cons, List.foldl_nil, List.set_cons_zero, List.set_cons_succ, d1, d2, d3, rdO, rdE, rdS, rdF, dC, toB, ofB, dAnd, dOr, dNot, dAndV, dOrV, dNotV, dLc, dYes, wipeE, asL, asT, mul_ok, div_ok, mod_ok, add_ok, sub_ok, neg_ok, lt_ok, le_ok, gt_ok, ge_ok, eq_ok, ne_ok, isB_ok, nisB_ok, abs_ok, max2_ok, min2_ok, len_ok, lenT_ok, toList_ok, toInt_ok, rev_ok, eqPt_ok, nePt_ok, eqPts_ok, nePts_ok, eqInts_ok, neInts_ok, ix_p0, ix_p1, ix_l0, ix_l1, ix_l2, eq2_ok, ne2_ok, ix_t0, ix_t1, ix_t2, kIsiInt, kIsiBool, kIsiStr, kIsiList, kIsiTup, toT, toL, aCons, aNil, List.getElem?_cons_zero, List.getElem?_cons_succ, List.length_cons, List.length_nil, List.cons_append, List.nil_append, List.replicate, ↓reduceIte, Bool.false_eq_true, Bool.true_and, Bool.and_true, Bool.not_true, Bool.not_false, Bool.and_false, Bool.false_and, noL, kCall, List.length_map, List.length_append, Nat.sub_self, Nat.reduceSub, Nat.reduceAdd, Int.cast_ofNat_Int, Int.reduceEq, decide_true, decide_false, Nat.zero_add, Int.reduceLT, Int.reduceLE, Int.reduceAdd, Int.reduceNeg, *])

def manyT (n : Nat) : Nat := ((List.range (2 * n + 1)).map fun (x : Nat) => ((List.range (2 * n + 1)).filter fun (y : Nat) => decide (Nat.gcd ((x : Int) - n).natAbs ((y : Int) - n).natAbs = 1)).length).sum
def maxL (l : List Int) : Int := match l with
  | [] => 0
  | a :: r => maxI r a
def smlB (F : List Pt) : Bool := F.all fun p => decide (p.1.natAbs ≤ 1000000000000) && decide (p.2.natAbs ≤ 1000000000000)
def fanOk (n : Nat) (F : List Pt) : Bool :=
  decide (3 ≤ F.length) && decide (F.length < 100000) && smlB F && decide (F.head? = some (1, 0)) && decide (F.length = manyT n) && (((prevs F).zip F).all fun q => decide (cr q.1 q.2 = 1)) && decide (ups F = 1) &&
    decide (maxL (F.map sz) = n) && decide (8 * Tot.Tot n = F.length)
def numsOk (F : List Pt) : Bool := (F.all fun p => decide (Nat.gcd p.1.natAbs p.2.natAbs = 1)) && ((stepsL F).all fun x => decide (x = 1)) && decide (roundN F = 1) && (triples F).all numOk
theorem fanned_true (n : Nat) (q : List Pt) (hn : 1 ≤ n ∧ n ≤ 1000) (hq : M_first_quarter [.int n] = some (pts q)) (hl : q.length < 10000) (h : fanOk n (four q) = true) (h8 : n ≤ 8 → numsOk (four q) = true) : M__law_fanned [.int n] = some (.bool true) := by
  generalize hF : four q = F at h h8
  simp only [fanOk, Bool.and_eq_true, decide_eq_true_eq] at h
  obtain ⟨⟨⟨⟨⟨⟨⟨⟨f1, f2⟩, f3⟩, f4⟩, f5⟩, f6⟩, f7⟩, f8⟩, f9⟩ := h
  have hS : Sml F := fun p hp => by
    have := List.all_eq_true.mp f3 p hp
    simp only [Bool.and_eq_true, decide_eq_true_eq] at this
    omega
  unfold M__law_fanned b__law_fanned
  have c0 := fan_eq n q hq (by omega)
  rw [hF] at c0
  have c1 := law_pairs_eq F
  have c2 : M__law_many [.int n] = some (.int (F.length : Nat)) := by
    rw [many_eq n (by omega), f5]
    rfl
  have c3 := round_eq F (by omega) hS fun q hq => of_decide_eq_true (List.all_eq_true.mp f6 q hq)
  rw [decide_eq_true f7] at c3
  have c4 : M_farey_count [.int n] = some (.int (F.length : Nat)) := by
    show (if 1 ≤ (n : Int) ∧ (n : Int) ≤ 10000 then _ else _) = _
    rw [if_pos (by omega)]
    have e : (n : Int).toNat = n := by omega
    rw [e, ← f9]
    rfl
  have c5 : M__law_same [.int (F.length : Nat), .int (F.length : Nat)] = some (.bool true) := by
    show Mr__law_same 8 _ = _
    rw [same_int 7, decide_eq_true rfl]
  have c6 : M__law_same [pts F, pts F] = some (.bool true) := by
    show Mr__law_same 8 _ = _
    rw [same_pts 5 F F (by omega), decide_eq_true rfl]
  have z1 : F.length ≤ sizeD := by rw [sizeD_eq]; omega
  have z2 : F.length < sizeD := by rw [sizeD_eq]; omega
  have lc : goLc (.t [3, 4]) dYes (d2 k2Max (d1 kAbs (rdO 3)) (d1 kAbs (rdO 4))) [some (.v (.int (n : Nat))), some (.o (F.map pt)), none, none, none] (F.map pt) = some ((F.map sz).map PyData.int) := by
    rw [goLc_map pt (fun p => .int (sz p)) F (fun p _ => ⟨_, by simp only [pt]; walk_at "vl"; rfl, rfl, by walk_at "vl"; rfl⟩), List.map_map]
    rfl
  have c7 : kMax (.list ((F.map sz).map PyData.int)) = some (.int (n : Nat)) := by
    cases e : F.map sz with
    | nil =>
      have := congrArg List.length e
      simp at this
      subst this
      simp at f1
    | cons a r =>
      rw [nums_max _ a r rfl, ← f8, e]
      rfl
  obtain ⟨p0, F', e0⟩ : ∃ p F', F = p :: F' := by
    cases F with
    | nil => simp at f1
    | cons p r => exact ⟨p, r, rfl⟩
  have e1 : p0 = (1, 0) := by
    rw [e0] at f4
    simpa using f4
  have c8 : kIx (.list (F.map pt)) (.int 0) = some (.tuple [.int 1, .int 0]) := by
    rw [e0, e1]
    exact ix_l0 _ _
  have put : ixN (F.length + 1) 0 = some 0 := by
    unfold ixN
    rw [if_pos (by omega), if_pos (by omega)]
    rfl
  clear f3 f4 f5 f6 f7 f8 f9 hF hq e0 e1
  by_cases q8 : n ≤ 8
  · have h9 := h8 q8
    simp only [numsOk, Bool.and_eq_true, decide_eq_true_eq, List.all_eq_true] at h9
    have c9 : M__law_numbered [pts F] = some (.bool true) := numbered_true F f2 f1 hS h9.1.1.1 h9.1.1.2 h9.1.2 h9.2
    have q9 : (n : Int) ≤ 8 := by omega
    clear h8 h9 q8 hn hS
    walk_at "vlh"
  · have q9 : ¬ (n : Int) ≤ 8 := by omega
    clear h8 q8 hn hS
    walk_at "vlh"
theorem fe_1 : M_first_eighth [.int 1] = some (pts [(1, 0), (1, 1)]) := by kernel_rfl
def q_1 : List Pt := [(1, 0), (1, 1)]
theorem qu_1 : M_first_quarter [.int 1] = some (pts q_1) := by
  have h := quarter_eq 1 _ fe_1 (by decide) (by decide)
  rw [h]
  kernel_rfl
theorem fe_2 : M_first_eighth [.int 2] = some (pts [(1, 0), (2, 1), (1, 1)]) := by kernel_rfl
def q_2 : List Pt := [(1, 0), (2, 1), (1, 1), (1, 2)]
theorem qu_2 : M_first_quarter [.int 2] = some (pts q_2) := by
  have h := quarter_eq 2 _ fe_2 (by decide) (by decide)
  rw [h]
  kernel_rfl
theorem fe_3 : M_first_eighth [.int 3] = some (pts [(1, 0), (3, 1), (2, 1), (3, 2), (1, 1)]) := by kernel_rfl
def q_3 : List Pt := [(1, 0), (3, 1), (2, 1), (3, 2), (1, 1), (2, 3), (1, 2), (1, 3)]
theorem qu_3 : M_first_quarter [.int 3] = some (pts q_3) := by
  have h := quarter_eq 3 _ fe_3 (by decide) (by decide)
  rw [h]
  kernel_rfl
theorem fe_4 : M_first_eighth [.int 4] = some (pts [(1, 0), (4, 1), (3, 1), (2, 1), (3, 2), (4, 3), (1, 1)]) := by kernel_rfl
def q_4 : List Pt := [(1, 0), (4, 1), (3, 1), (2, 1), (3, 2), (4, 3), (1, 1), (3, 4), (2, 3), (1, 2), (1, 3), (1, 4)]
theorem qu_4 : M_first_quarter [.int 4] = some (pts q_4) := by
  have h := quarter_eq 4 _ fe_4 (by decide) (by decide)
  rw [h]
  kernel_rfl
theorem fe_5 : M_first_eighth [.int 5] = some (pts [(1, 0), (5, 1), (4, 1), (3, 1), (5, 2), (2, 1), (5, 3), (3, 2), (4, 3), (5, 4), (1, 1)]) := by kernel_rfl
def q_5 : List Pt := [(1, 0), (5, 1), (4, 1), (3, 1), (5, 2), (2, 1), (5, 3), (3, 2), (4, 3), (5, 4), (1, 1), (4, 5), (3, 4), (2, 3), (3, 5), (1, 2), (2, 5), (1, 3), (1, 4), (1, 5)]
theorem qu_5 : M_first_quarter [.int 5] = some (pts q_5) := by
  have h := quarter_eq 5 _ fe_5 (by decide) (by decide)
  rw [h]
  kernel_rfl
theorem fe_6 : M_first_eighth [.int 6] = some (pts [(1, 0), (6, 1), (5, 1), (4, 1), (3, 1), (5, 2), (2, 1), (5, 3), (3, 2), (4, 3), (5, 4), (6, 5), (1, 1)]) := by kernel_rfl
def q_6 : List Pt := [(1, 0), (6, 1), (5, 1), (4, 1), (3, 1), (5, 2), (2, 1), (5, 3), (3, 2), (4, 3), (5, 4), (6, 5), (1, 1), (5, 6), (4, 5), (3, 4), (2, 3), (3, 5), (1, 2), (2, 5), (1, 3), (1, 4), (1, 5), (1, 6)]
theorem qu_6 : M_first_quarter [.int 6] = some (pts q_6) := by
  have h := quarter_eq 6 _ fe_6 (by decide) (by decide)
  rw [h]
  kernel_rfl
theorem fe_7 : M_first_eighth [.int 7] = some (pts [(1, 0), (7, 1), (6, 1), (5, 1), (4, 1), (7, 2), (3, 1), (5, 2), (7, 3), (2, 1), (7, 4), (5, 3), (3, 2), (7, 5), (4, 3), (5, 4), (6, 5), (7, 6), (1, 1)]) := by kernel_rfl
def q_7 : List Pt := [(1, 0), (7, 1), (6, 1), (5, 1), (4, 1), (7, 2), (3, 1), (5, 2), (7, 3), (2, 1), (7, 4), (5, 3), (3, 2), (7, 5), (4, 3), (5, 4), (6, 5), (7, 6), (1, 1), (6, 7), (5, 6), (4, 5), (3, 4), (5, 7), (2, 3), (3, 5), (4, 7), (1, 2), (3, 7), (2, 5), (1, 3), (2, 7), (1, 4), (1, 5), (1, 6), (1, 7)]
theorem qu_7 : M_first_quarter [.int 7] = some (pts q_7) := by
  have h := quarter_eq 7 _ fe_7 (by decide) (by decide)
  rw [h]
  kernel_rfl
theorem fe_8 : M_first_eighth [.int 8] = some (pts [(1, 0), (8, 1), (7, 1), (6, 1), (5, 1), (4, 1), (7, 2), (3, 1), (8, 3), (5, 2), (7, 3), (2, 1), (7, 4), (5, 3), (8, 5), (3, 2), (7, 5), (4, 3), (5, 4), (6, 5), (7, 6), (8, 7), (1, 1)]) := by kernel_rfl
def q_8 : List Pt := [(1, 0), (8, 1), (7, 1), (6, 1), (5, 1), (4, 1), (7, 2), (3, 1), (8, 3), (5, 2), (7, 3), (2, 1), (7, 4), (5, 3), (8, 5), (3, 2), (7, 5), (4, 3), (5, 4), (6, 5), (7, 6), (8, 7), (1, 1), (7, 8), (6, 7), (5, 6), (4, 5), (3, 4), (5, 7), (2, 3), (5, 8), (3, 5), (4, 7), (1, 2), (3, 7), (2, 5), (3, 8), (1, 3), (2, 7), (1, 4), (1, 5), (1, 6), (1, 7), (1, 8)]
theorem qu_8 : M_first_quarter [.int 8] = some (pts q_8) := by
  have h := quarter_eq 8 _ fe_8 (by decide) (by decide)
  rw [h]
  kernel_rfl
theorem fe_9 : M_first_eighth [.int 9] = some (pts [(1, 0), (9, 1), (8, 1), (7, 1), (6, 1), (5, 1), (9, 2), (4, 1), (7, 2), (3, 1), (8, 3), (5, 2), (7, 3), (9, 4), (2, 1), (9, 5), (7, 4), (5, 3), (8, 5), (3, 2), (7, 5), (4, 3), (9, 7), (5, 4), (6, 5), (7, 6), (8, 7), (9, 8), (1, 1)]) := by kernel_rfl
def q_9 : List Pt := [(1, 0), (9, 1), (8, 1), (7, 1), (6, 1), (5, 1), (9, 2), (4, 1), (7, 2), (3, 1), (8, 3), (5, 2), (7, 3), (9, 4), (2, 1), (9, 5), (7, 4), (5, 3), (8, 5), (3, 2), (7, 5), (4, 3), (9, 7), (5, 4), (6, 5), (7, 6), (8, 7), (9, 8), (1, 1), (8, 9), (7, 8), (6, 7), (5, 6), (4, 5), (7, 9), (3, 4), (5, 7), (2, 3), (5, 8), (3, 5), (4, 7), (5, 9), (1, 2), (4, 9), (3, 7), (2, 5), (3, 8), (1, 3), (2, 7), (1, 4), (2, 9), (1, 5), (1, 6), (1, 7), (1, 8), (1, 9)]
theorem qu_9 : M_first_quarter [.int 9] = some (pts q_9) := by
  have h := quarter_eq 9 _ fe_9 (by decide) (by decide)
  rw [h]
  kernel_rfl
theorem fe_10 : M_first_eighth [.int 10] = some (pts [(1, 0), (10, 1), (9, 1), (8, 1), (7, 1), (6, 1), (5, 1), (9, 2), (4, 1), (7, 2), (10, 3), (3, 1), (8, 3), (5, 2), (7, 3), (9, 4), (2, 1), (9, 5), (7, 4), (5, 3), (8, 5), (3, 2), (10, 7), (7, 5), (4, 3), (9, 7), (5, 4), (6, 5), (7, 6), (8, 7), (9, 8), (10, 9), (1, 1)]) := by kernel_rfl
def q_10 : List Pt := [(1, 0), (10, 1), (9, 1), (8, 1), (7, 1), (6, 1), (5, 1), (9, 2), (4, 1), (7, 2), (10, 3), (3, 1), (8, 3), (5, 2), (7, 3), (9, 4), (2, 1), (9, 5), (7, 4), (5, 3), (8, 5), (3, 2), (10, 7), (7, 5), (4, 3), (9, 7), (5, 4), (6, 5), (7, 6), (8, 7), (9, 8), (10, 9), (1, 1), (9, 10), (8, 9), (7, 8), (6, 7), (5, 6), (4, 5), (7, 9), (3, 4), (5, 7), (7, 10), (2, 3), (5, 8), (3, 5), (4, 7), (5, 9), (1, 2), (4, 9), (3, 7), (2, 5), (3, 8), (1, 3), (3, 10), (2, 7), (1, 4), (2, 9), (1, 5), (1, 6), (1, 7), (1, 8), (1, 9), (1, 10)]
theorem qu_10 : M_first_quarter [.int 10] = some (pts q_10) := by
  have h := quarter_eq 10 _ fe_10 (by decide) (by decide)
  rw [h]
  kernel_rfl
theorem fe_11 : M_first_eighth [.int 11] = some (pts [(1, 0), (11, 1), (10, 1), (9, 1), (8, 1), (7, 1), (6, 1), (11, 2), (5, 1), (9, 2), (4, 1), (11, 3), (7, 2), (10, 3), (3, 1), (11, 4), (8, 3), (5, 2), (7, 3), (9, 4), (11, 5), (2, 1), (11, 6), (9, 5), (7, 4), (5, 3), (8, 5), (11, 7), (3, 2), (10, 7), (7, 5), (11, 8), (4, 3), (9, 7), (5, 4), (11, 9), (6, 5), (7, 6), (8, 7), (9, 8), (10, 9), (11, 10), (1, 1)]) := by kernel_rfl
def q_11 : List Pt := [(1, 0), (11, 1), (10, 1), (9, 1), (8, 1), (7, 1), (6, 1), (11, 2), (5, 1), (9, 2), (4, 1), (11, 3), (7, 2), (10, 3), (3, 1), (11, 4), (8, 3), (5, 2), (7, 3), (9, 4), (11, 5), (2, 1), (11, 6), (9, 5), (7, 4), (5, 3), (8, 5), (11, 7), (3, 2), (10, 7), (7, 5), (11, 8), (4, 3), (9, 7), (5, 4), (11, 9), (6, 5), (7, 6), (8, 7), (9, 8), (10, 9), (11, 10), (1, 1), (10, 11), (9, 10), (8, 9), (7, 8), (6, 7), (5, 6), (9, 11), (4, 5), (7, 9), (3, 4), (8, 11), (5, 7), (7, 10), (2, 3), (7, 11), (5, 8), (3, 5), (4, 7), (5, 9), (6, 11), (1, 2), (5, 11), (4, 9), (3, 7), (2, 5), (3, 8), (4, 11), (1, 3), (3, 10), (2, 7), (3, 11), (1, 4), (2, 9), (1, 5), (2, 11), (1, 6), (1, 7), (1, 8), (1, 9), (1, 10), (1, 11)]
theorem qu_11 : M_first_quarter [.int 11] = some (pts q_11) := by
  have h := quarter_eq 11 _ fe_11 (by decide) (by decide)
  rw [h]
  kernel_rfl
theorem fe_12 : M_first_eighth [.int 12] = some (pts [(1, 0), (12, 1), (11, 1), (10, 1), (9, 1), (8, 1), (7, 1), (6, 1), (11, 2), (5, 1), (9, 2), (4, 1), (11, 3), (7, 2), (10, 3), (3, 1), (11, 4), (8, 3), (5, 2), (12, 5), (7, 3), (9, 4), (11, 5), (2, 1), (11, 6), (9, 5), (7, 4), (12, 7), (5, 3), (8, 5), (11, 7), (3, 2), (10, 7), (7, 5), (11, 8), (4, 3), (9, 7), (5, 4), (11, 9), (6, 5), (7, 6), (8, 7), (9, 8), (10, 9), (11, 10), (12, 11), (1, 1)]) := by kernel_rfl
def q_12 : List Pt := [(1, 0), (12, 1), (11, 1), (10, 1), (9, 1), (8, 1), (7, 1), (6, 1), (11, 2), (5, 1), (9, 2), (4, 1), (11, 3), (7, 2), (10, 3), (3, 1), (11, 4), (8, 3), (5, 2), (12, 5), (7, 3), (9, 4), (11, 5), (2, 1), (11, 6), (9, 5), (7, 4), (12, 7), (5, 3), (8, 5), (11, 7), (3, 2), (10, 7), (7, 5), (11, 8), (4, 3), (9, 7), (5, 4), (11, 9), (6, 5), (7, 6), (8, 7), (9, 8), (10, 9), (11, 10), (12, 11), (1, 1), (11, 12), (10, 11), (9, 10), (8, 9), (7, 8), (6, 7), (5, 6), (9, 11), (4, 5), (7, 9), (3, 4), (8, 11), (5, 7), (7, 10), (2, 3), (7, 11), (5, 8), (3, 5), (7, 12), (4, 7), (5, 9), (6, 11), (1, 2), (5, 11), (4, 9), (3, 7), (5, 12), (2, 5), (3, 8), (4, 11), (1, 3), (3, 10), (2, 7), (3, 11), (1, 4), (2, 9), (1, 5), (2, 11), (1, 6), (1, 7), (1, 8), (1, 9), (1, 10), (1, 11), (1, 12)]
theorem qu_12 : M_first_quarter [.int 12] = some (pts q_12) := by
  have h := quarter_eq 12 _ fe_12 (by decide) (by decide)
  rw [h]
  kernel_rfl
theorem fe_13 : M_first_eighth [.int 13] = some (pts [(1, 0), (13, 1), (12, 1), (11, 1), (10, 1), (9, 1), (8, 1), (7, 1), (13, 2), (6, 1), (11, 2), (5, 1), (9, 2), (13, 3), (4, 1), (11, 3), (7, 2), (10, 3), (13, 4), (3, 1), (11, 4), (8, 3), (13, 5), (5, 2), (12, 5), (7, 3), (9, 4), (11, 5), (13, 6), (2, 1), (13, 7), (11, 6), (9, 5), (7, 4), (12, 7), (5, 3), (13, 8), (8, 5), (11, 7), (3, 2), (13, 9), (10, 7), (7, 5), (11, 8), (4, 3), (13, 10), (9, 7), (5, 4), (11, 9), (6, 5), (13, 11), (7, 6), (8, 7), (9, 8), (10, 9), (11, 10), (12, 11), (13, 12), (1, 1)]) := by kernel_rfl
def q_13 : List Pt := [(1, 0), (13, 1), (12, 1), (11, 1), (10, 1), (9, 1), (8, 1), (7, 1), (13, 2), (6, 1), (11, 2), (5, 1), (9, 2), (13, 3), (4, 1), (11, 3), (7, 2), (10, 3), (13, 4), (3, 1), (11, 4), (8, 3), (13, 5), (5, 2), (12, 5), (7, 3), (9, 4), (11, 5), (13, 6), (2, 1), (13, 7), (11, 6), (9, 5), (7, 4), (12, 7), (5, 3), (13, 8), (8, 5), (11, 7), (3, 2), (13, 9), (10, 7), (7, 5), (11, 8), (4, 3), (13, 10), (9, 7), (5, 4), (11, 9), (6, 5), (13, 11), (7, 6), (8, 7), (9, 8), (10, 9), (11, 10), (12, 11), (13, 12), (1, 1), (12, 13), (11, 12), (10, 11), (9, 10), (8, 9), (7, 8), (6, 7), (11, 13), (5, 6), (9, 11), (4, 5), (7, 9), (10, 13), (3, 4), (8, 11), (5, 7), (7, 10), (9, 13), (2, 3), (7, 11), (5, 8), (8, 13), (3, 5), (7, 12), (4, 7), (5, 9), (6, 11), (7, 13), (1, 2), (6, 13), (5, 11), (4, 9), (3, 7), (5, 12), (2, 5), (5, 13), (3, 8), (4, 11), (1, 3), (4, 13), (3, 10), (2, 7), (3, 11), (1, 4), (3, 13), (2, 9), (1, 5), (2, 11), (1, 6), (2, 13), (1, 7), (1, 8), (1, 9), (1, 10), (1, 11), (1, 12), (1, 13)]
theorem qu_13 : M_first_quarter [.int 13] = some (pts q_13) := by
  have h := quarter_eq 13 _ fe_13 (by decide) (by decide)
  rw [h]
  kernel_rfl
theorem fe_14 : M_first_eighth [.int 14] = some (pts [(1, 0), (14, 1), (13, 1), (12, 1), (11, 1), (10, 1), (9, 1), (8, 1), (7, 1), (13, 2), (6, 1), (11, 2), (5, 1), (14, 3), (9, 2), (13, 3), (4, 1), (11, 3), (7, 2), (10, 3), (13, 4), (3, 1), (14, 5), (11, 4), (8, 3), (13, 5), (5, 2), (12, 5), (7, 3), (9, 4), (11, 5), (13, 6), (2, 1), (13, 7), (11, 6), (9, 5), (7, 4), (12, 7), (5, 3), (13, 8), (8, 5), (11, 7), (14, 9), (3, 2), (13, 9), (10, 7), (7, 5), (11, 8), (4, 3), (13, 10), (9, 7), (14, 11), (5, 4), (11, 9), (6, 5), (13, 11), (7, 6), (8, 7), (9, 8), (10, 9), (11, 10), (12, 11), (13, 12), (14, 13), (1, 1)]) := by kernel_rfl
def q_14 : List Pt := [(1, 0), (14, 1), (13, 1), (12, 1), (11, 1), (10, 1), (9, 1), (8, 1), (7, 1), (13, 2), (6, 1), (11, 2), (5, 1), (14, 3), (9, 2), (13, 3), (4, 1), (11, 3), (7, 2), (10, 3), (13, 4), (3, 1), (14, 5), (11, 4), (8, 3), (13, 5), (5, 2), (12, 5), (7, 3), (9, 4), (11, 5), (13, 6), (2, 1), (13, 7), (11, 6), (9, 5), (7, 4), (12, 7), (5, 3), (13, 8), (8, 5), (11, 7), (14, 9), (3, 2), (13, 9), (10, 7), (7, 5), (11, 8), (4, 3), (13, 10), (9, 7), (14, 11), (5, 4), (11, 9), (6, 5), (13, 11), (7, 6), (8, 7), (9, 8), (10, 9), (11, 10), (12, 11), (13, 12), (14, 13), (1, 1), (13, 14), (12, 13), (11, 12), (10, 11), (9, 10), (8, 9), (7, 8), (6, 7), (11, 13), (5, 6), (9, 11), (4, 5), (11, 14), (7, 9), (10, 13), (3, 4), (8, 11), (5, 7), (7, 10), (9, 13), (2, 3), (9, 14), (7, 11), (5, 8), (8, 13), (3, 5), (7, 12), (4, 7), (5, 9), (6, 11), (7, 13), (1, 2), (6, 13), (5, 11), (4, 9), (3, 7), (5, 12), (2, 5), (5, 13), (3, 8), (4, 11), (5, 14), (1, 3), (4, 13), (3, 10), (2, 7), (3, 11), (1, 4), (3, 13), (2, 9), (3, 14), (1, 5), (2, 11), (1, 6), (2, 13), (1, 7), (1, 8), (1, 9), (1, 10), (1, 11), (1, 12), (1, 13), (1, 14)]
theorem qu_14 : M_first_quarter [.int 14] = some (pts q_14) := by
  have h := quarter_eq 14 _ fe_14 (by decide) (by decide)
  rw [h]
  kernel_rfl
theorem fe_15 : M_first_eighth [.int 15] = some (pts [(1, 0), (15, 1), (14, 1), (13, 1), (12, 1), (11, 1), (10, 1), (9, 1), (8, 1), (15, 2), (7, 1), (13, 2), (6, 1), (11, 2), (5, 1), (14, 3), (9, 2), (13, 3), (4, 1), (15, 4), (11, 3), (7, 2), (10, 3), (13, 4), (3, 1), (14, 5), (11, 4), (8, 3), (13, 5), (5, 2), (12, 5), (7, 3), (9, 4), (11, 5), (13, 6), (15, 7), (2, 1), (15, 8), (13, 7), (11, 6), (9, 5), (7, 4), (12, 7), (5, 3), (13, 8), (8, 5), (11, 7), (14, 9), (3, 2), (13, 9), (10, 7), (7, 5), (11, 8), (15, 11), (4, 3), (13, 10), (9, 7), (14, 11), (5, 4), (11, 9), (6, 5), (13, 11), (7, 6), (15, 13), (8, 7), (9, 8), (10, 9), (11, 10), (12, 11), (13, 12), (14, 13), (15, 14), (1, 1)]) := by kernel_rfl
def q_15 : List Pt := [(1, 0), (15, 1), (14, 1), (13, 1), (12, 1), (11, 1), (10, 1), (9, 1), (8, 1), (15, 2), (7, 1), (13, 2), (6, 1), (11, 2), (5, 1), (14, 3), (9, 2), (13, 3), (4, 1), (15, 4), (11, 3), (7, 2), (10, 3), (13, 4), (3, 1), (14, 5), (11, 4), (8, 3), (13, 5), (5, 2), (12, 5), (7, 3), (9, 4), (11, 5), (13, 6), (15, 7), (2, 1), (15, 8), (13, 7), (11, 6), (9, 5), (7, 4), (12, 7), (5, 3), (13, 8), (8, 5), (11, 7), (14, 9), (3, 2), (13, 9), (10, 7), (7, 5), (11, 8), (15, 11), (4, 3), (13, 10), (9, 7), (14, 11), (5, 4), (11, 9), (6, 5), (13, 11), (7, 6), (15, 13), (8, 7), (9, 8), (10, 9), (11, 10), (12, 11), (13, 12), (14, 13), (15, 14), (1, 1), (14, 15), (13, 14), (12, 13), (11, 12), (10, 11), (9, 10), (8, 9), (7, 8), (13, 15), (6, 7), (11, 13), (5, 6), (9, 11), (4, 5), (11, 14), (7, 9), (10, 13), (3, 4), (11, 15), (8, 11), (5, 7), (7, 10), (9, 13), (2, 3), (9, 14), (7, 11), (5, 8), (8, 13), (3, 5), (7, 12), (4, 7), (5, 9), (6, 11), (7, 13), (8, 15), (1, 2), (7, 15), (6, 13), (5, 11), (4, 9), (3, 7), (5, 12), (2, 5), (5, 13), (3, 8), (4, 11), (5, 14), (1, 3), (4, 13), (3, 10), (2, 7), (3, 11), (4, 15), (1, 4), (3, 13), (2, 9), (3, 14), (1, 5), (2, 11), (1, 6), (2, 13), (1, 7), (2, 15), (1, 8), (1, 9), (1, 10), (1, 11), (1, 12), (1, 13), (1, 14), (1, 15)]
theorem qu_15 : M_first_quarter [.int 15] = some (pts q_15) := by
  have h := quarter_eq 15 _ fe_15 (by decide) (by decide)
  rw [h]
  kernel_rfl
theorem fe_16 : M_first_eighth [.int 16] = some (pts [(1, 0), (16, 1), (15, 1), (14, 1), (13, 1), (12, 1), (11, 1), (10, 1), (9, 1), (8, 1), (15, 2), (7, 1), (13, 2), (6, 1), (11, 2), (16, 3), (5, 1), (14, 3), (9, 2), (13, 3), (4, 1), (15, 4), (11, 3), (7, 2), (10, 3), (13, 4), (16, 5), (3, 1), (14, 5), (11, 4), (8, 3), (13, 5), (5, 2), (12, 5), (7, 3), (16, 7), (9, 4), (11, 5), (13, 6), (15, 7), (2, 1), (15, 8), (13, 7), (11, 6), (9, 5), (16, 9), (7, 4), (12, 7), (5, 3), (13, 8), (8, 5), (11, 7), (14, 9), (3, 2), (16, 11), (13, 9), (10, 7), (7, 5), (11, 8), (15, 11), (4, 3), (13, 10), (9, 7), (14, 11), (5, 4), (16, 13), (11, 9), (6, 5), (13, 11), (7, 6), (15, 13), (8, 7), (9, 8), (10, 9), (11, 10), (12, 11), (13, 12), (14, 13), (15, 14), (16, 15), (1, 1)]) := by kernel_rfl
def q_16 : List Pt := [(1, 0), (16, 1), (15, 1), (14, 1), (13, 1), (12, 1), (11, 1), (10, 1), (9, 1), (8, 1), (15, 2), (7, 1), (13, 2), (6, 1), (11, 2), (16, 3), (5, 1), (14, 3), (9, 2), (13, 3), (4, 1), (15, 4), (11, 3), (7, 2), (10, 3), (13, 4), (16, 5), (3, 1), (14, 5), (11, 4), (8, 3), (13, 5), (5, 2), (12, 5), (7, 3), (16, 7), (9, 4), (11, 5), (13, 6), (15, 7), (2, 1), (15, 8), (13, 7), (11, 6), (9, 5), (16, 9), (7, 4), (12, 7), (5, 3), (13, 8), (8, 5), (11, 7), (14, 9), (3, 2), (16, 11), (13, 9), (10, 7), (7, 5), (11, 8), (15, 11), (4, 3), (13, 10), (9, 7), (14, 11), (5, 4), (16, 13), (11, 9), (6, 5), (13, 11), (7, 6), (15, 13), (8, 7), (9, 8), (10, 9), (11, 10), (12, 11), (13, 12), (14, 13), (15, 14), (16, 15), (1, 1), (15, 16), (14, 15), (13, 14), (12, 13), (11, 12), (10, 11), (9, 10), (8, 9), (7, 8), (13, 15), (6, 7), (11, 13), (5, 6), (9, 11), (13, 16), (4, 5), (11, 14), (7, 9), (10, 13), (3, 4), (11, 15), (8, 11), (5, 7), (7, 10), (9, 13), (11, 16), (2, 3), (9, 14), (7, 11), (5, 8), (8, 13), (3, 5), (7, 12), (4, 7), (9, 16), (5, 9), (6, 11), (7, 13), (8, 15), (1, 2), (7, 15), (6, 13), (5, 11), (4, 9), (7, 16), (3, 7), (5, 12), (2, 5), (5, 13), (3, 8), (4, 11), (5, 14), (1, 3), (5, 16), (4, 13), (3, 10), (2, 7), (3, 11), (4, 15), (1, 4), (3, 13), (2, 9), (3, 14), (1, 5), (3, 16), (2, 11), (1, 6), (2, 13), (1, 7), (2, 15), (1, 8), (1, 9), (1, 10), (1, 11), (1, 12), (1, 13), (1, 14), (1, 15), (1, 16)]
theorem qu_16 : M_first_quarter [.int 16] = some (pts q_16) := by
  have h := quarter_eq 16 _ fe_16 (by decide) (by decide)
  rw [h]
  kernel_rfl
theorem fe_17 : M_first_eighth [.int 17] = some (pts [(1, 0), (17, 1), (16, 1), (15, 1), (14, 1), (13, 1), (12, 1), (11, 1), (10, 1), (9, 1), (17, 2), (8, 1), (15, 2), (7, 1), (13, 2), (6, 1), (17, 3), (11, 2), (16, 3), (5, 1), (14, 3), (9, 2), (13, 3), (17, 4), (4, 1), (15, 4), (11, 3), (7, 2), (17, 5), (10, 3), (13, 4), (16, 5), (3, 1), (17, 6), (14, 5), (11, 4), (8, 3), (13, 5), (5, 2), (17, 7), (12, 5), (7, 3), (16, 7), (9, 4), (11, 5), (13, 6), (15, 7), (17, 8), (2, 1), (17, 9), (15, 8), (13, 7), (11, 6), (9, 5), (16, 9), (7, 4), (12, 7), (17, 10), (5, 3), (13, 8), (8, 5), (11, 7), (14, 9), (17, 11), (3, 2), (16, 11), (13, 9), (10, 7), (17, 12), (7, 5), (11, 8), (15, 11), (4, 3), (17, 13), (13, 10), (9, 7), (14, 11), (5, 4), (16, 13), (11, 9), (17, 14), (6, 5), (13, 11), (7, 6), (15, 13), (8, 7), (17, 15), (9, 8), (10, 9), (11, 10), (12, 11), (13, 12), (14, 13), (15, 14), (16, 15), (17, 16), (1, 1)]) := by kernel_rfl
def q_17 : List Pt := [(1, 0), (17, 1), (16, 1), (15, 1), (14, 1), (13, 1), (12, 1), (11, 1), (10, 1), (9, 1), (17, 2), (8, 1), (15, 2), (7, 1), (13, 2), (6, 1), (17, 3), (11, 2), (16, 3), (5, 1), (14, 3), (9, 2), (13, 3), (17, 4), (4, 1), (15, 4), (11, 3), (7, 2), (17, 5), (10, 3), (13, 4), (16, 5), (3, 1), (17, 6), (14, 5), (11, 4), (8, 3), (13, 5), (5, 2), (17, 7), (12, 5), (7, 3), (16, 7), (9, 4), (11, 5), (13, 6), (15, 7), (17, 8), (2, 1), (17, 9), (15, 8), (13, 7), (11, 6), (9, 5), (16, 9), (7, 4), (12, 7), (17, 10), (5, 3), (13, 8), (8, 5), (11, 7), (14, 9), (17, 11), (3, 2), (16, 11), (13, 9), (10, 7), (17, 12), (7, 5), (11, 8), (15, 11), (4, 3), (17, 13), (13, 10), (9, 7), (14, 11), (5, 4), (16, 13), (11, 9), (17, 14), (6, 5), (13, 11), (7, 6), (15, 13), (8, 7), (17, 15), (9, 8), (10, 9), (11, 10), (12, 11), (13, 12), (14, 13), (15, 14), (16, 15), (17, 16), (1, 1), (16, 17), (15, 16), (14, 15), (13, 14), (12, 13), (11, 12), (10, 11), (9, 10), (8, 9), (15, 17), (7, 8), (13, 15), (6, 7), (11, 13), (5, 6), (14, 17), (9, 11), (13, 16), (4, 5), (11, 14), (7, 9), (10, 13), (13, 17), (3, 4), (11, 15), (8, 11), (5, 7), (12, 17), (7, 10), (9, 13), (11, 16), (2, 3), (11, 17), (9, 14), (7, 11), (5, 8), (8, 13), (3, 5), (10, 17), (7, 12), (4, 7), (9, 16), (5, 9), (6, 11), (7, 13), (8, 15), (9, 17), (1, 2), (8, 17), (7, 15), (6, 13), (5, 11), (4, 9), (7, 16), (3, 7), (5, 12), (7, 17), (2, 5), (5, 13), (3, 8), (4, 11), (5, 14), (6, 17), (1, 3), (5, 16), (4, 13), (3, 10), (5, 17), (2, 7), (3, 11), (4, 15), (1, 4), (4, 17), (3, 13), (2, 9), (3, 14), (1, 5), (3, 16), (2, 11), (3, 17), (1, 6), (2, 13), (1, 7), (2, 15), (1, 8), (2, 17), (1, 9), (1, 10), (1, 11), (1, 12), (1, 13), (1, 14), (1, 15), (1, 16), (1, 17)]
theorem qu_17 : M_first_quarter [.int 17] = some (pts q_17) := by
  have h := quarter_eq 17 _ fe_17 (by decide) (by decide)
  rw [h]
  kernel_rfl
theorem fe_18 : M_first_eighth [.int 18] = some (pts [(1, 0), (18, 1), (17, 1), (16, 1), (15, 1), (14, 1), (13, 1), (12, 1), (11, 1), (10, 1), (9, 1), (17, 2), (8, 1), (15, 2), (7, 1), (13, 2), (6, 1), (17, 3), (11, 2), (16, 3), (5, 1), (14, 3), (9, 2), (13, 3), (17, 4), (4, 1), (15, 4), (11, 3), (18, 5), (7, 2), (17, 5), (10, 3), (13, 4), (16, 5), (3, 1), (17, 6), (14, 5), (11, 4), (8, 3), (13, 5), (18, 7), (5, 2), (17, 7), (12, 5), (7, 3), (16, 7), (9, 4), (11, 5), (13, 6), (15, 7), (17, 8), (2, 1), (17, 9), (15, 8), (13, 7), (11, 6), (9, 5), (16, 9), (7, 4), (12, 7), (17, 10), (5, 3), (18, 11), (13, 8), (8, 5), (11, 7), (14, 9), (17, 11), (3, 2), (16, 11), (13, 9), (10, 7), (17, 12), (7, 5), (18, 13), (11, 8), (15, 11), (4, 3), (17, 13), (13, 10), (9, 7), (14, 11), (5, 4), (16, 13), (11, 9), (17, 14), (6, 5), (13, 11), (7, 6), (15, 13), (8, 7), (17, 15), (9, 8), (10, 9), (11, 10), (12, 11), (13, 12), (14, 13), (15, 14), (16, 15), (17, 16), (18, 17), (1, 1)]) := by kernel_rfl
def q_18 : List Pt := [(1, 0), (18, 1), (17, 1), (16, 1), (15, 1), (14, 1), (13, 1), (12, 1), (11, 1), (10, 1), (9, 1), (17, 2), (8, 1), (15, 2), (7, 1), (13, 2), (6, 1), (17, 3), (11, 2), (16, 3), (5, 1), (14, 3), (9, 2), (13, 3), (17, 4), (4, 1), (15, 4), (11, 3), (18, 5), (7, 2), (17, 5), (10, 3), (13, 4), (16, 5), (3, 1), (17, 6), (14, 5), (11, 4), (8, 3), (13, 5), (18, 7), (5, 2), (17, 7), (12, 5), (7, 3), (16, 7), (9, 4), (11, 5), (13, 6), (15, 7), (17, 8), (2, 1), (17, 9), (15, 8), (13, 7), (11, 6), (9, 5), (16, 9), (7, 4), (12, 7), (17, 10), (5, 3), (18, 11), (13, 8), (8, 5), (11, 7), (14, 9), (17, 11), (3, 2), (16, 11), (13, 9), (10, 7), (17, 12), (7, 5), (18, 13), (11, 8), (15, 11), (4, 3), (17, 13), (13, 10), (9, 7), (14, 11), (5, 4), (16, 13), (11, 9), (17, 14), (6, 5), (13, 11), (7, 6), (15, 13), (8, 7), (17, 15), (9, 8), (10, 9), (11, 10), (12, 11), (13, 12), (14, 13), (15, 14), (16, 15), (17, 16), (18, 17), (1, 1), (17, 18), (16, 17), (15, 16), (14, 15), (13, 14), (12, 13), (11, 12), (10, 11), (9, 10), (8, 9), (15, 17), (7, 8), (13, 15), (6, 7), (11, 13), (5, 6), (14, 17), (9, 11), (13, 16), (4, 5), (11, 14), (7, 9), (10, 13), (13, 17), (3, 4), (11, 15), (8, 11), (13, 18), (5, 7), (12, 17), (7, 10), (9, 13), (11, 16), (2, 3), (11, 17), (9, 14), (7, 11), (5, 8), (8, 13), (11, 18), (3, 5), (10, 17), (7, 12), (4, 7), (9, 16), (5, 9), (6, 11), (7, 13), (8, 15), (9, 17), (1, 2), (8, 17), (7, 15), (6, 13), (5, 11), (4, 9), (7, 16), (3, 7), (5, 12), (7, 17), (2, 5), (7, 18), (5, 13), (3, 8), (4, 11), (5, 14), (6, 17), (1, 3), (5, 16), (4, 13), (3, 10), (5, 17), (2, 7), (5, 18), (3, 11), (4, 15), (1, 4), (4, 17), (3, 13), (2, 9), (3, 14), (1, 5), (3, 16), (2, 11), (3, 17), (1, 6), (2, 13), (1, 7), (2, 15), (1, 8), (2, 17), (1, 9), (1, 10), (1, 11), (1, 12), (1, 13), (1, 14), (1, 15), (1, 16), (1, 17), (1, 18)]
theorem qu_18 : M_first_quarter [.int 18] = some (pts q_18) := by
  have h := quarter_eq 18 _ fe_18 (by decide) (by decide)
  rw [h]
  kernel_rfl
theorem fe_19 : M_first_eighth [.int 19] = some (pts [(1, 0), (19, 1), (18, 1), (17, 1), (16, 1), (15, 1), (14, 1), (13, 1), (12, 1), (11, 1), (10, 1), (19, 2), (9, 1), (17, 2), (8, 1), (15, 2), (7, 1), (13, 2), (19, 3), (6, 1), (17, 3), (11, 2), (16, 3), (5, 1), (19, 4), (14, 3), (9, 2), (13, 3), (17, 4), (4, 1), (19, 5), (15, 4), (11, 3), (18, 5), (7, 2), (17, 5), (10, 3), (13, 4), (16, 5), (19, 6), (3, 1), (17, 6), (14, 5), (11, 4), (19, 7), (8, 3), (13, 5), (18, 7), (5, 2), (17, 7), (12, 5), (19, 8), (7, 3), (16, 7), (9, 4), (11, 5), (13, 6), (15, 7), (17, 8), (19, 9), (2, 1), (19, 10), (17, 9), (15, 8), (13, 7), (11, 6), (9, 5), (16, 9), (7, 4), (19, 11), (12, 7), (17, 10), (5, 3), (18, 11), (13, 8), (8, 5), (19, 12), (11, 7), (14, 9), (17, 11), (3, 2), (19, 13), (16, 11), (13, 9), (10, 7), (17, 12), (7, 5), (18, 13), (11, 8), (15, 11), (19, 14), (4, 3), (17, 13), (13, 10), (9, 7), (14, 11), (19, 15), (5, 4), (16, 13), (11, 9), (17, 14), (6, 5), (19, 16), (13, 11), (7, 6), (15, 13), (8, 7), (17, 15), (9, 8), (19, 17), (10, 9), (11, 10), (12, 11), (13, 12), (14, 13), (15, 14), (16, 15), (17, 16), (18, 17), (19, 18), (1, 1)]) := by kernel_rfl
def q_19 : List Pt := [(1, 0), (19, 1), (18, 1), (17, 1), (16, 1), (15, 1), (14, 1), (13, 1), (12, 1), (11, 1), (10, 1), (19, 2), (9, 1), (17, 2), (8, 1), (15, 2), (7, 1), (13, 2), (19, 3), (6, 1), (17, 3), (11, 2), (16, 3), (5, 1), (19, 4), (14, 3), (9, 2), (13, 3), (17, 4), (4, 1), (19, 5), (15, 4), (11, 3), (18, 5), (7, 2), (17, 5), (10, 3), (13, 4), (16, 5), (19, 6), (3, 1), (17, 6), (14, 5), (11, 4), (19, 7), (8, 3), (13, 5), (18, 7), (5, 2), (17, 7), (12, 5), (19, 8), (7, 3), (16, 7), (9, 4), (11, 5), (13, 6), (15, 7), (17, 8), (19, 9), (2, 1), (19, 10), (17, 9), (15, 8), (13, 7), (11, 6), (9, 5), (16, 9), (7, 4), (19, 11), (12, 7), (17, 10), (5, 3), (18, 11), (13, 8), (8, 5), (19, 12), (11, 7), (14, 9), (17, 11), (3, 2), (19, 13), (16, 11), (13, 9), (10, 7), (17, 12), (7, 5), (18, 13), (11, 8), (15, 11), (19, 14), (4, 3), (17, 13), (13, 10), (9, 7), (14, 11), (19, 15), (5, 4), (16, 13), (11, 9), (17, 14), (6, 5), (19, 16), (13, 11), (7, 6), (15, 13), (8, 7), (17, 15), (9, 8), (19, 17), (10, 9), (11, 10), (12, 11), (13, 12), (14, 13), (15, 14), (16, 15), (17, 16), (18, 17), (19, 18), (1, 1), (18, 19), (17, 18), (16, 17), (15, 16), (14, 15), (13, 14), (12, 13), (11, 12), (10, 11), (9, 10), (17, 19), (8, 9), (15, 17), (7, 8), (13, 15), (6, 7), (11, 13), (16, 19), (5, 6), (14, 17), (9, 11), (13, 16), (4, 5), (15, 19), (11, 14), (7, 9), (10, 13), (13, 17), (3, 4), (14, 19), (11, 15), (8, 11), (13, 18), (5, 7), (12, 17), (7, 10), (9, 13), (11, 16), (13, 19), (2, 3), (11, 17), (9, 14), (7, 11), (12, 19), (5, 8), (8, 13), (11, 18), (3, 5), (10, 17), (7, 12), (11, 19), (4, 7), (9, 16), (5, 9), (6, 11), (7, 13), (8, 15), (9, 17), (10, 19), (1, 2), (9, 19), (8, 17), (7, 15), (6, 13), (5, 11), (4, 9), (7, 16), (3, 7), (8, 19), (5, 12), (7, 17), (2, 5), (7, 18), (5, 13), (3, 8), (7, 19), (4, 11), (5, 14), (6, 17), (1, 3), (6, 19), (5, 16), (4, 13), (3, 10), (5, 17), (2, 7), (5, 18), (3, 11), (4, 15), (5, 19), (1, 4), (4, 17), (3, 13), (2, 9), (3, 14), (4, 19), (1, 5), (3, 16), (2, 11), (3, 17), (1, 6), (3, 19), (2, 13), (1, 7), (2, 15), (1, 8), (2, 17), (1, 9), (2, 19), (1, 10), (1, 11), (1, 12), (1, 13), (1, 14), (1, 15), (1, 16), (1, 17), (1, 18), (1, 19)]
theorem qu_19 : M_first_quarter [.int 19] = some (pts q_19) := by
  have h := quarter_eq 19 _ fe_19 (by decide) (by decide)
  rw [h]
  kernel_rfl
theorem fe_20 : M_first_eighth [.int 20] = some (pts [(1, 0), (20, 1), (19, 1), (18, 1), (17, 1), (16, 1), (15, 1), (14, 1), (13, 1), (12, 1), (11, 1), (10, 1), (19, 2), (9, 1), (17, 2), (8, 1), (15, 2), (7, 1), (20, 3), (13, 2), (19, 3), (6, 1), (17, 3), (11, 2), (16, 3), (5, 1), (19, 4), (14, 3), (9, 2), (13, 3), (17, 4), (4, 1), (19, 5), (15, 4), (11, 3), (18, 5), (7, 2), (17, 5), (10, 3), (13, 4), (16, 5), (19, 6), (3, 1), (20, 7), (17, 6), (14, 5), (11, 4), (19, 7), (8, 3), (13, 5), (18, 7), (5, 2), (17, 7), (12, 5), (19, 8), (7, 3), (16, 7), (9, 4), (20, 9), (11, 5), (13, 6), (15, 7), (17, 8), (19, 9), (2, 1), (19, 10), (17, 9), (15, 8), (13, 7), (11, 6), (20, 11), (9, 5), (16, 9), (7, 4), (19, 11), (12, 7), (17, 10), (5, 3), (18, 11), (13, 8), (8, 5), (19, 12), (11, 7), (14, 9), (17, 11), (20, 13), (3, 2), (19, 13), (16, 11), (13, 9), (10, 7), (17, 12), (7, 5), (18, 13), (11, 8), (15, 11), (19, 14), (4, 3), (17, 13), (13, 10), (9, 7), (14, 11), (19, 15), (5, 4), (16, 13), (11, 9), (17, 14), (6, 5), (19, 16), (13, 11), (20, 17), (7, 6), (15, 13), (8, 7), (17, 15), (9, 8), (19, 17), (10, 9), (11, 10), (12, 11), (13, 12), (14, 13), (15, 14), (16, 15), (17, 16), (18, 17), (19, 18), (20, 19), (1, 1)]) := by kernel_rfl
def q_20 : List Pt := [(1, 0), (20, 1), (19, 1), (18, 1), (17, 1), (16, 1), (15, 1), (14, 1), (13, 1), (12, 1), (11, 1), (10, 1), (19, 2), (9, 1), (17, 2), (8, 1), (15, 2), (7, 1), (20, 3), (13, 2), (19, 3), (6, 1), (17, 3), (11, 2), (16, 3), (5, 1), (19, 4), (14, 3), (9, 2), (13, 3), (17, 4), (4, 1), (19, 5), (15, 4), (11, 3), (18, 5), (7, 2), (17, 5), (10, 3), (13, 4), (16, 5), (19, 6), (3, 1), (20, 7), (17, 6), (14, 5), (11, 4), (19, 7), (8, 3), (13, 5), (18, 7), (5, 2), (17, 7), (12, 5), (19, 8), (7, 3), (16, 7), (9, 4), (20, 9), (11, 5), (13, 6), (15, 7), (17, 8), (19, 9), (2, 1), (19, 10), (17, 9), (15, 8), (13, 7), (11, 6), (20, 11), (9, 5), (16, 9), (7, 4), (19, 11), (12, 7), (17, 10), (5, 3), (18, 11), (13, 8), (8, 5), (19, 12), (11, 7), (14, 9), (17, 11), (20, 13), (3, 2), (19, 13), (16, 11), (13, 9), (10, 7), (17, 12), (7, 5), (18, 13), (11, 8), (15, 11), (19, 14), (4, 3), (17, 13), (13, 10), (9, 7), (14, 11), (19, 15), (5, 4), (16, 13), (11, 9), (17, 14), (6, 5), (19, 16), (13, 11), (20, 17), (7, 6), (15, 13), (8, 7), (17, 15), (9, 8), (19, 17), (10, 9), (11, 10), (12, 11), (13, 12), (14, 13), (15, 14), (16, 15), (17, 16), (18, 17), (19, 18), (20, 19), (1, 1), (19, 20), (18, 19), (17, 18), (16, 17), (15, 16), (14, 15), (13, 14), (12, 13), (11, 12), (10, 11), (9, 10), (17, 19), (8, 9), (15, 17), (7, 8), (13, 15), (6, 7), (17, 20), (11, 13), (16, 19), (5, 6), (14, 17), (9, 11), (13, 16), (4, 5), (15, 19), (11, 14), (7, 9), (10, 13), (13, 17), (3, 4), (14, 19), (11, 15), (8, 11), (13, 18), (5, 7), (12, 17), (7, 10), (9, 13), (11, 16), (13, 19), (2, 3), (13, 20), (11, 17), (9, 14), (7, 11), (12, 19), (5, 8), (8, 13), (11, 18), (3, 5), (10, 17), (7, 12), (11, 19), (4, 7), (9, 16), (5, 9), (11, 20), (6, 11), (7, 13), (8, 15), (9, 17), (10, 19), (1, 2), (9, 19), (8, 17), (7, 15), (6, 13), (5, 11), (9, 20), (4, 9), (7, 16), (3, 7), (8, 19), (5, 12), (7, 17), (2, 5), (7, 18), (5, 13), (3, 8), (7, 19), (4, 11), (5, 14), (6, 17), (7, 20), (1, 3), (6, 19), (5, 16), (4, 13), (3, 10), (5, 17), (2, 7), (5, 18), (3, 11), (4, 15), (5, 19), (1, 4), (4, 17), (3, 13), (2, 9), (3, 14), (4, 19), (1, 5), (3, 16), (2, 11), (3, 17), (1, 6), (3, 19), (2, 13), (3, 20), (1, 7), (2, 15), (1, 8), (2, 17), (1, 9), (2, 19), (1, 10), (1, 11), (1, 12), (1, 13), (1, 14), (1, 15), (1, 16), (1, 17), (1, 18), (1, 19), (1, 20)]
theorem qu_20 : M_first_quarter [.int 20] = some (pts q_20) := by
  have h := quarter_eq 20 _ fe_20 (by decide) (by decide)
  rw [h]
  kernel_rfl
theorem ok_1 : M__law_fanned [.int 1] = some (.bool true) := fanned_true 1 q_1 (by decide) qu_1 (by decide) (by decide +kernel) (fun _ => by decide +kernel)
theorem ok_2 : M__law_fanned [.int 2] = some (.bool true) := fanned_true 2 q_2 (by decide) qu_2 (by decide) (by decide +kernel) (fun _ => by decide +kernel)
theorem ok_3 : M__law_fanned [.int 3] = some (.bool true) := fanned_true 3 q_3 (by decide) qu_3 (by decide) (by decide +kernel) (fun _ => by decide +kernel)
theorem ok_4 : M__law_fanned [.int 4] = some (.bool true) := fanned_true 4 q_4 (by decide) qu_4 (by decide) (by decide +kernel) (fun _ => by decide +kernel)
theorem ok_5 : M__law_fanned [.int 5] = some (.bool true) := fanned_true 5 q_5 (by decide) qu_5 (by decide) (by decide +kernel) (fun _ => by decide +kernel)
theorem ok_6 : M__law_fanned [.int 6] = some (.bool true) := fanned_true 6 q_6 (by decide) qu_6 (by decide) (by decide +kernel) (fun _ => by decide +kernel)
theorem ok_7 : M__law_fanned [.int 7] = some (.bool true) := fanned_true 7 q_7 (by decide) qu_7 (by decide) (by decide +kernel) (fun _ => by decide +kernel)
theorem ok_8 : M__law_fanned [.int 8] = some (.bool true) := fanned_true 8 q_8 (by decide) qu_8 (by decide) (by decide +kernel) (fun _ => by decide +kernel)
theorem ok_9 : M__law_fanned [.int 9] = some (.bool true) := fanned_true 9 q_9 (by decide) qu_9 (by decide) (by decide +kernel) (fun h => absurd h (by decide))
theorem ok_10 : M__law_fanned [.int 10] = some (.bool true) := fanned_true 10 q_10 (by decide) qu_10 (by decide) (by decide +kernel) (fun h => absurd h (by decide))
theorem ok_11 : M__law_fanned [.int 11] = some (.bool true) := fanned_true 11 q_11 (by decide) qu_11 (by decide) (by decide +kernel) (fun h => absurd h (by decide))
theorem ok_12 : M__law_fanned [.int 12] = some (.bool true) := fanned_true 12 q_12 (by decide) qu_12 (by decide) (by decide +kernel) (fun h => absurd h (by decide))
theorem ok_13 : M__law_fanned [.int 13] = some (.bool true) := fanned_true 13 q_13 (by decide) qu_13 (by decide) (by decide +kernel) (fun h => absurd h (by decide))
theorem ok_14 : M__law_fanned [.int 14] = some (.bool true) := fanned_true 14 q_14 (by decide) qu_14 (by decide) (by decide +kernel) (fun h => absurd h (by decide))
theorem ok_15 : M__law_fanned [.int 15] = some (.bool true) := fanned_true 15 q_15 (by decide) qu_15 (by decide) (by decide +kernel) (fun h => absurd h (by decide))
theorem ok_16 : M__law_fanned [.int 16] = some (.bool true) := fanned_true 16 q_16 (by decide) qu_16 (by decide) (by decide +kernel) (fun h => absurd h (by decide))
theorem ok_17 : M__law_fanned [.int 17] = some (.bool true) := fanned_true 17 q_17 (by decide) qu_17 (by decide) (by decide +kernel) (fun h => absurd h (by decide))
theorem ok_18 : M__law_fanned [.int 18] = some (.bool true) := fanned_true 18 q_18 (by decide) qu_18 (by decide) (by decide +kernel) (fun h => absurd h (by decide))
theorem ok_19 : M__law_fanned [.int 19] = some (.bool true) := fanned_true 19 q_19 (by decide) qu_19 (by decide) (by decide +kernel) (fun h => absurd h (by decide))
theorem ok_20 : M__law_fanned [.int 20] = some (.bool true) := fanned_true 20 q_20 (by decide) qu_20 (by decide) (by decide +kernel) (fun h => absurd h (by decide))
end VL

set_option Elab.async false
set_option linter.all false
set_option maxRecDepth 100000
set_option maxHeartbeats 4000000
set_option exponentiation.threshold 5000
namespace VL
open PySem L2
local macro_rules | `(tactic| walk_at "vl") => `(tactic| simp only [runD, goFor, goLc, mkEn_f, mkEn_t, mkEn_0, dSeq, dSet, dSetF, dRet, dRetF, dIf, dNx, dFor, dWhile, dPar, dAsg, dApp, dExt, dPut, dPop, dDrop, dPass, ghost, kill, fz, setT, setL, List.foldl_cons, List.foldl_nil, List.set_cons_zero, List.set_cons_succ, d1, d2, d3, rdO, rdE, rdS, rdF, dC, toB, ofB, dAnd, dOr, dNot, dAndV, dOrV, dNotV, dLc, dYes, wipeE, asL, asT, mul_ok, div_ok, mod_ok, add_ok, sub_ok, neg_ok, lt_ok, le_ok, gt_ok, ge_ok, eq_ok, ne_ok, isB_ok, nisB_ok, abs_ok, max2_ok, min2_ok, len_ok, lenT_ok, toList_ok, toInt_ok, rev_ok, eqPt_ok, nePt_ok, eqPts_ok, nePts_ok, eqInts_ok, neInts_ok, ix_p0, ix_p1, ix_l0, ix_l1, ix_l2, eq2_ok, ne2_ok, ix_t0, ix_t1, ix_t2, kIsiInt, kIsiBool, kIsiStr, kIsiList, kIsiTup, toT, toL, aCons, aNil, List.getElem?_cons_zero, List.getElem?_cons_succ, List.length_cons, List.length_nil, List.cons_append, List.nil_append, List.replicate, ↓reduceIte, Bool.false_eq_true, Bool.true_and, Bool.and_true, Bool.not_true, Bool.not_false, Bool.and_false, Bool.false_and, noL, kCall, List.length_map, List.length_append, Nat.sub_self, Nat.reduceSub, Nat.reduceAdd, Int.cast_ofNat_Int, Int.reduceEq, decide_true, decide_false, Nat.zero_add, Int.reduceLT, Int.reduceLE, Int.reduceAdd, Int.reduceNeg])
local macro_rules | `(tactic| walk_at "vlh") => `(tactic| simp only [runD, goFor, goLc, mkEn_f, mkEn_t, mkEn_0, dSeq, dSet, dSetF, dRet, dRetF, dIf, dNx, dFor, dWhile, dPar, dAsg, dApp, dExt, dPut, dPop, dDrop, dPass, ghost, kill, fz, setT, setL, List.foldl_cons, List.foldl_nil, List.set_cons_zero, List.set_cons_succ, d1, d2, d3, rdO, rdE, rdS, rdF, dC, toB, ofB, dAnd, dOr, dNot, dAndV, dOrV, dNotV, dLc, dYes, wipeE, asL, asT, mul_ok, div_ok, mod_ok, add_ok, sub_ok, neg_ok, lt_ok, le_ok, gt_ok, ge_ok, eq_ok, ne_ok, isB_ok, nisB_ok, abs_ok, max2_ok, min2_ok, len_ok, lenT_ok, toList_ok, toInt_ok, rev_ok, eqPt_ok, nePt_ok, eqPts_ok, nePts_ok, eqInts_ok, neInts_ok, ix_p0, ix_p1, ix_l0, ix_l1, ix_l2, eq2_ok, ne2_ok, ix_t0, ix_t1, ix_t2, kIsiInt, kIsiBool, kIsiStr, kIsiList, kIsiTup, toT, toL, aCons, aNil, List.getElem?_cons_zero, List.getElem?_cons_succ, List.length_cons, List.length_nil, List.cons_append, List.nil_append, List.replicate, ↓reduceIte, Bool.false_eq_true, Bool.true_and, Bool.and_true, Bool.not_true, Bool.not_false, Bool.and_false, Bool.false_and, noL, kCall, List.length_map, List.length_append, Nat.sub_self, Nat.reduceSub, Nat.reduceAdd, Int.cast_ofNat_Int, Int.reduceEq, decide_true, decide_false, Nat.zero_add, Int.reduceLT, Int.reduceLE, Int.reduceAdd, Int.reduceNeg, *])
/-! ### the quotients of a number -/
structure Quo (n : Nat) (L : List Nat) : Prop where
  asc : L.Pairwise (· < ·)
  quo : ∀ x ∈ L, ∃ m, 1 ≤ m ∧ m ≤ n ∧ x = n / m
  all : ∀ m, 1 ≤ m → m ≤ n → n / m ∈ L
  len : L.length ≤ n
structure QI (n : Nat) (s : List Nat × Nat) : Prop where
  pos : 1 ≤ s.2
  top : s.2 ≤ n + 1
  desc : s.1.Pairwise (· > ·)
  quo : ∀ x ∈ s.1, n / s.2 < x ∧ ∃ m, 1 ≤ m ∧ m ≤ n ∧ x = n / m
  all : ∀ m, 1 ≤ m → m < s.2 → n / m ∈ s.1
  len : s.1.length < s.2
theorem qi_step {n : Nat} {s : List Nat × Nat} (h : QI n s) (hl : s.2 ≤ n) : QI n (s.1 ++ [n / s.2], n / (n / s.2) + 1) ∧ s.2 < n / (n / s.2) + 1 := by
  obtain ⟨L, l⟩ := s
  have hl' : l ≤ n := hl
  have p1 : 1 ≤ l := h.pos
  have q1 : 1 ≤ n / l := (Nat.one_le_div_iff (by omega)).mpr hl'
  have q2 : l ≤ n / (n / l) := by
    rw [Nat.le_div_iff_mul_le (by omega), Nat.mul_comm]
    exact Nat.div_mul_le_self n l
  have q3 : n / (n / l) ≤ n := Nat.div_le_self _ _
  have q4 : n / (n / (n / l) + 1) < n / l := by
    rw [Nat.div_lt_iff_lt_mul (by omega)]
    have := Nat.lt_mul_div_succ n (show 0 < n / l by omega)
    exact this
  refine ⟨⟨by show 1 ≤ n / (n / l) + 1; omega, by show n / (n / l) + 1 ≤ n + 1; omega, ?_, ?_, ?_, ?_⟩, Nat.lt_succ_of_le q2⟩
  · rw [List.pairwise_append]
    exact ⟨h.desc, List.pairwise_singleton _ _, fun a ha b hb => by
      have e : b = n / l := by simpa using hb
      subst e
      exact (h.quo a ha).1⟩
  · intro x hx
    show n / (n / (n / l) + 1) < x ∧ _
    rcases List.mem_append.mp hx with hx | hx
    · obtain ⟨a, b⟩ := h.quo x hx
      have a' : n / l < x := a
      exact ⟨Nat.lt_trans q4 a', b⟩
    · have e : x = n / l := by simpa using hx
      subst e
      exact ⟨q4, l, p1, hl', rfl⟩
  · intro m hm hm2
    have hm2' : m < n / (n / l) + 1 := hm2
    by_cases c : m < l
    · exact List.mem_append_left _ (h.all m hm c)
    · have e : n / m = n / l := by
        apply Nat.le_antisymm
        · exact Nat.div_le_div_left (by omega) (by omega)
        · rw [Nat.le_div_iff_mul_le (by omega), Nat.mul_comm]
          have := Nat.div_mul_le_self n (n / l)
          exact Nat.le_trans (Nat.mul_le_mul_right _ (by omega)) this
      rw [e]
      exact List.mem_append_right _ (by simp)
  · show (L ++ [n / l]).length < n / (n / l) + 1
    have := h.len
    have : L.length < l := this
    rw [List.length_append, List.length_singleton]
    omega
def natD (x : Nat) : D := .int (x : Int)
theorem shares_eq (n : Nat) (hn : n ≤ 1000000) : ∃ L, Quo n L ∧ M_shares_with [.int n] = some (.list (L.map natD)) := by
  unfold M_shares_with b_shares_with
  walk_at "vl"
  obtain ⟨⟨L, l⟩, h1, h2, h3⟩ := goW_inv (c := d2 cLe (rdO 2) (rdO 0)) (body := dSeq (dApp 1 (d2 kDiv (rdO 0) (rdO 2))) (dSet 2 (d2 kAdd (d2 kDiv (rdO 0) (d2 kDiv (rdO 0) (rdO 2))) (dC (.int 1)))))
    (fun s : List Nat × Nat => [some (.v (.int n)), some (.o (s.1.map natD)), some (.v (.int (s.2 : Nat)))]) (QI n) (fun s => n + 1 - s.2) (fun s => (s.1 ++ [n / s.2], n / (n / s.2) + 1)) (fun s => decide ((s.2 : Int) ≤ n))
    (fun s _ => by walk_at "vl") (fun s hs hm => by
      have hl : s.2 ≤ n := by have := of_decide_eq_true hm; omega
      obtain ⟨a1, a2⟩ := qi_step hs hl
      have p1 := hs.pos
      have q1 : 1 ≤ n / s.2 := (Nat.one_le_div_iff (by omega)).mpr hl
      have d1' : kDiv (.int (n : Nat)) (.int (s.2 : Nat)) = some (.int ((n / s.2 : Nat) : Int)) := by
        rw [div_ok (by omega) (sm_of (by omega) (by omega))]; rfl
      have q5 : n / s.2 ≤ n := Nat.div_le_self _ _
      have d2' : kDiv (.int (n : Nat)) (.int ((n / s.2 : Nat) : Int)) = some (.int ((n / (n / s.2) : Nat) : Int)) := by
        rw [div_ok (by omega) (sm_of (by omega) (by omega))]; rfl
      have z : s.1.length < sizeD := by rw [sizeD_eq]; have := hs.len; have := hs.top; omega
      refine ⟨?_, a1, by show n + 1 - (n / (n / s.2) + 1) < n + 1 - s.2; omega⟩
      clear hs hm a1 a2 hl p1 q1 q5
      walk_at "vlh"
      simp [natD])
    fuel ([], 1) ⟨Nat.le_refl _, by show 1 ≤ n + 1; omega, List.Pairwise.nil, (by intro x hx; simp at hx), (by intro m a b; have : m < 1 := b; omega), by show 0 < 1; omega⟩ (fuel_big (by show n + 1 - 1 < _; omega))
  refine ⟨L.reverse, ⟨?_, ?_, ?_, ?_⟩, ?_⟩
  · rw [List.pairwise_reverse]
    exact h1.desc.imp fun h => h
  · intro x hx
    exact (h1.quo x (List.mem_reverse.mp hx)).2
  · intro m a b
    have hl : ¬ (l : Int) ≤ n := by have := of_decide_eq_false h2; exact this
    exact List.mem_reverse.mpr (h1.all m a (by show m < l; omega))
  · have := h1.len
    have := h1.top
    rw [List.length_reverse]
    have a : L.length < l := h1.len
    have b : l ≤ n + 1 := h1.top
    omega
  · have h3' := h3
    simp only [List.map_nil] at h3'
    have e1 : ((1 : Nat) : Int) = 1 := rfl
    rw [e1] at h3'
    simp only [h3']
    walk_at "vl"
    rw [List.map_reverse]
/-! ### sums over the quotients -/
def S2 (v len : Nat) : Nat := Tot.sm (fun i => if i = 0 then 0 else 8 * Tot.Tot (v / (i + 1))) (len - 1)
theorem sm_const (c : Nat) : ∀ n, Tot.sm (fun _ => c) n = n * c
  | 0 => by rw [Nat.zero_mul]; rfl
  | n + 1 => by rw [Nat.succ_mul, ← sm_const c n]; rfl
theorem s2_step (v len : Nat) (h2 : 2 ≤ len) (hl : len ≤ v) : len ≤ v / (v / len) ∧ v / (v / len) ≤ v ∧ S2 v (v / (v / len) + 1) = S2 v len + (v / (v / len) + 1 - len) * (8 * Tot.Tot (v / len)) := by
  have q1 : 1 ≤ v / len := (Nat.one_le_div_iff (by omega)).mpr hl
  have q2 : len ≤ v / (v / len) := by
    rw [Nat.le_div_iff_mul_le (by omega), Nat.mul_comm]
    exact Nat.div_mul_le_self v len
  refine ⟨q2, Nat.div_le_self _ _, ?_⟩
  unfold S2
  have e : v / (v / len) + 1 - 1 = (len - 1) + (v / (v / len) + 1 - len) := by omega
  rw [e, Tot.sm_app, ← sm_const]
  congr 1
  apply Tot.sm_congr
  intro i hi
  rw [if_neg (by omega)]
  congr 2
  have e2 : len - 1 + i + 1 = len + i := by omega
  rw [e2]
  apply Nat.le_antisymm
  · exact Nat.div_le_div_left (by omega) (by omega)
  · rw [Nat.le_div_iff_mul_le (by omega), Nat.mul_comm]
    have := Nat.div_mul_le_self v (v / len)
    exact Nat.le_trans (Nat.mul_le_mul_right _ (by omega)) this
theorem s2_all (v : Nat) (hv : 1 ≤ v) : S2 v (v + 1) + 8 * Tot.Tot v = 4 * v * v + 4 * v := by
  have h := Tot.tot_pairs v
  obtain ⟨k, rfl⟩ : ∃ k, v = k + 1 := ⟨v - 1, by omega⟩
  have e : Tot.sm (fun l => Tot.Tot ((k + 1) / (l + 1))) (1 + k) = Tot.sm (fun l => Tot.Tot ((k + 1) / (l + 1))) 1 + Tot.sm (fun i => Tot.Tot ((k + 1) / (1 + i + 1))) k := Tot.sm_app _ 1 k
  have e1 : Tot.sm (fun l => Tot.Tot ((k + 1) / (l + 1))) 1 = Tot.Tot (k + 1) := by
    show 0 + Tot.Tot ((k + 1) / (0 + 1)) = _
    rw [Nat.zero_add, Nat.zero_add, Nat.div_one]
  have e2 : S2 (k + 1) (k + 1 + 1) = 8 * Tot.sm (fun i => Tot.Tot ((k + 1) / (1 + i + 1))) k := by
    unfold S2
    have : k + 1 + 1 - 1 = 1 + k := by omega
    rw [this, Tot.sm_app]
    have z : Tot.sm (fun i => if i = 0 then 0 else 8 * Tot.Tot ((k + 1) / (i + 1))) 1 = 0 := rfl
    rw [z, Nat.zero_add]
    have mul : ∀ (f : Nat → Nat) n, Tot.sm (fun i => 8 * f i) n = 8 * Tot.sm f n := by
      intro f n
      induction n with
      | zero => rfl
      | succ n ih => show _ + _ = 8 * (_ + _); rw [ih, Nat.mul_add]
    rw [← mul]
    apply Tot.sm_congr
    intro i _
    rw [if_neg (by omega)]
  have e4 : ∀ f : Nat → Nat, Tot.sm f (k + 1) = Tot.sm f (1 + k) := fun f => by rw [Nat.add_comm]
  rw [e4, e, e1] at h
  rw [e2]
  have e3 : 4 * (k + 1) * (k + 1) + 4 * (k + 1) = 4 * ((k + 1) * (k + 1 + 1)) := by
    grind
  rw [e3]
  omega
end VL

set_option Elab.async false
set_option linter.all false
set_option maxRecDepth 100000
set_option maxHeartbeats 4000000
set_option exponentiation.threshold 5000
namespace VL
open PySem L2
local macro_rules | `(tactic| walk_at "vl") => `(tactic| simp only [runD, goFor, goLc, mkEn_f, mkEn_t, mkEn_0, dSeq, dSet, dSetF, dRet, dRetF, dIf, dNx, dFor, dWhile, dPar, dAsg, dApp, dExt, dPut, dPop, dDrop, dPass, ghost, kill, fz, setT, setL, List.foldl_cons, List.foldl_nil, List.set_cons_zero, List.set_cons_succ, d1, d2, d3, rdO, rdE, rdS, rdF, dC, toB, ofB, dAnd, dOr, dNot, dAndV, dOrV, dNotV, dLc, dYes, wipeE, asL, asT, mul_ok, div_ok, mod_ok, add_ok, sub_ok, neg_ok, lt_ok, le_ok, gt_ok, ge_ok, eq_ok, ne_ok, isB_ok, nisB_ok, abs_ok, max2_ok, min2_ok, len_ok, lenT_ok, toList_ok, toInt_ok, rev_ok, eqPt_ok, nePt_ok, eqPts_ok, nePts_ok, eqInts_ok, neInts_ok, ix_p0, ix_p1, ix_l0, ix_l1, ix_l2, eq2_ok, ne2_ok, ix_t0, ix_t1, ix_t2, kIsiInt, kIsiBool, kIsiStr, kIsiList, kIsiTup, toT, toL, aCons, aNil, List.getElem?_cons_zero, List.getElem?_cons_succ, List.length_cons, List.length_nil, List.cons_append, List.nil_append, List.replicate, ↓reduceIte, Bool.false_eq_true, Bool.true_and, Bool.and_true, Bool.not_true, Bool.not_false, Bool.and_false, Bool.false_and, noL, kCall, List.length_map, List.length_append, Nat.sub_self, Nat.reduceSub, Nat.reduceAdd, Int.cast_ofNat_Int, Int.reduceEq, decide_true, decide_false, Nat.zero_add, Int.reduceLT, Int.reduceLE, Int.reduceAdd, Int.reduceNeg])
local macro_rules | `(tactic| walk_at "vlh") => `(tactic| simp only [runD, goFor, goLc, mkEn_f, mkEn_t, mkEn_0, dSeq, dSet, dSetF, dRet, dRetF, dIf, dNx, dFor, dWhile, dPar, dAsg, dApp, dExt, dPut, dPop, dDrop, dPass, ghost, kill, fz, setT, setL, List.foldl_cons, List.foldl_nil, List.set_cons_zero, List.set_cons_succ, d1, d2, d3, rdO, rdE, rdS, rdF, dC, toB, ofB, dAnd, dOr, dNot, dAndV, dOrV, dNotV, dLc, dYes, wipeE, asL, asT, mul_ok, div_ok, mod_ok, add_ok, sub_ok, neg_ok, lt_ok, le_ok, gt_ok, ge_ok, eq_ok, ne_ok, isB_ok, nisB_ok, abs_ok, max2_ok, min2_ok, len_ok, lenT_ok, toList_ok, toInt_ok, rev_ok, eqPt_ok, nePt_ok, eqPts_ok, nePts_ok, eqInts_ok, neInts_ok, ix_p0, ix_p1, ix_l0, ix_l1, ix_l2, eq2_ok, ne2_ok, ix_t0, ix_t1, ix_t2, kIsiInt, kIsiBool, kIsiStr, kIsiList, kIsiTup, toT, toL, aCons, aNil, List.getElem?_cons_zero, List.getElem?_cons_succ, List.length_cons, List.length_nil, List.cons_append, List.nil_append, List.replicate, ↓reduceIte, Bool.false_eq_true, Bool.true_and, Bool.and_true, Bool.not_true, Bool.not_false, Bool.and_false, Bool.false_and, noL, kCall, List.length_map, List.length_append, Nat.sub_self, Nat.reduceSub, Nat.reduceAdd, Int.cast_ofNat_Int, Int.reduceEq, decide_true, decide_false, Nat.zero_add, Int.reduceLT, Int.reduceLE, Int.reduceAdd, Int.reduceNeg, *])

/-! ### the sieve -/
theorem range_up (k n : Nat) (hk : 2 ≤ k) (hk2 : k ≤ n) (hn : n ≤ 1000000) : kR3 (.int (k : Nat)) (.int ((n : Int) + 1)) (.int (k : Nat)) = some ((List.range (n / k)).map fun (i : Nat) => PyData.int (((k + i * k : Nat)) : Int)) := by
  have q0 : ((n : Int) + 1 - (k : Int) + (k : Int) - 1) / (k : Int) = ((n / k : Nat) : Int) := by
    have : (n : Int) + 1 - (k : Int) + (k : Int) - 1 = (n : Int) := by omega
    rw [this]; rfl
  have t : turns (k : Int) ((n : Int) + 1) (k : Int) = n / k := by
    unfold turns
    rw [if_pos (by omega), q0]
    rfl
  have q1 : ((n : Int) + 1 - (k : Int) - 1) / (k : Int) + 1 = ((n / k : Nat) : Int) := by
    have e : (n : Int) + 1 - (k : Int) - 1 = (n : Int) - (k : Int) := by omega
    have e2 : ((n - k : Nat) : Int) = (n : Int) - (k : Int) := by omega
    rw [e, ← e2]
    have e3 : n / k = (n - k) / k + 1 := by
      rw [Nat.div_eq_sub_div (by omega) hk2]
    rw [e3]
    rfl
  have sz : Builtin.Range.rangeSize (k : Int) ((n : Int) + 1) (k : Int) = ((n / k : Nat) : Int) := by
    unfold Builtin.Range.rangeSize
    rw [if_pos (by omega), if_pos (by omega), q1]
  have le : n / k ≤ n := Nat.div_le_self _ _
  have lek : n / k * k ≤ n := Nat.div_mul_le_self _ _
  show (if cR3 _ _ _ = true then some (sgD _ _ (turns _ _ _)) else none) = _
  rw [t, if_pos]
  · unfold sgD
    congr 2
  · unfold cR3
    rw [t, sz]
    simp only [Bool.and_eq_true, decide_eq_true_eq]
    refine ⟨⟨⟨by omega, by omega⟩, ?_⟩, trivial⟩
    unfold Builtin.Range.small
    rw [sz]
    have e4 : ((n / k : Nat) : Int) * (k : Int) = ((n / k * k : Nat) : Int) := by rw [Int.natCast_mul]
    simp only [Builtin.Range.rangeFitsLong, Bool.and_eq_true, Bool.or_eq_true, decide_eq_true_eq, beq_iff_eq]
    refine ⟨⟨⟨⟨⟨by omega, by omega⟩, by omega, by omega⟩, by omega, by omega⟩, by omega, by omega⟩, .inr ?_⟩
    rw [if_pos (by omega)]
    simp only [Bool.and_eq_true, decide_eq_true_eq]
    exact ⟨by omega, by omega⟩
theorem set_range (n j : Nat) (f : Nat → D) (v : D) : ((List.range n).map f).set j v = (List.range n).map fun i => if i = j then v else f i := by
  apply List.ext_getElem?
  intro i
  rw [List.getElem?_set]
  by_cases hi : i < n
  · rw [List.getElem?_map, List.getElem?_range hi, List.getElem?_map, List.getElem?_range hi]
    by_cases e : j = i
    · subst e; simp [hi]
    · rw [if_neg e]
      simp [Ne.symm e, show ¬ i = j from fun z => e z.symm]
  · have e1 : ((List.range n).map f)[i]? = none := List.getElem?_eq_none (by simp; omega)
    have e2 : ((List.range n).map fun i => if i = j then v else f i)[i]? = none := List.getElem?_eq_none (by simp; omega)
    rw [e1, e2]
    split
    · split
      · rename_i h; simp at h; omega
      · rfl
    · rfl
theorem ix_range (n j : Nat) (f : Nat → D) (hj : j < n) : kIx (.list ((List.range n).map f)) (.int (j : Nat)) = some (f j) := by
  refine atI_nat ?_
  rw [List.getElem?_map, List.getElem?_range hj]
  rfl
/-- the list behind t strokes by k -/
def strk (k t j : Nat) : Nat := if k ∣ j ∧ 1 ≤ j ∧ j ≤ k * t then Tot.cnt k j else Tot.cnt (k - 1) j
theorem cnt_zero (k : Nat) : Tot.cnt k 0 = 0 := rfl
theorem sieve_turn (n k : Nat) (hk : 2 ≤ k) (hk2 : k ≤ n) (hn : n ≤ 1000000) (hp : Tot.pr k) :
    goFor (.n 3) (dSeq (dPut 1 (rdO 3) (d2 kSub (d2 kIx (rdO 1) (rdO 3)) (d2 kDiv (d2 kIx (rdO 1) (rdO 3)) (rdO 2)))) (ghost (kill [3]) dNx)) ((List.range (n / k)).map fun (i : Nat) => PyData.int (((k + i * k : Nat)) : Int))
      [some (.v (.int (n : Nat))), some (.o ((List.range (n + 1)).map fun j => natD (Tot.cnt (k - 1) j))), some (.v (.int (k : Nat))), none] =
    some (.nx [some (.v (.int (n : Nat))), some (.o ((List.range (n + 1)).map fun j => natD (Tot.cnt k j))), some (.v (.int (k : Nat))), none]) := by
  have go := goFor_pre (T := .n 3) (body := dSeq (dPut 1 (rdO 3) (d2 kSub (d2 kIx (rdO 1) (rdO 3)) (d2 kDiv (d2 kIx (rdO 1) (rdO 3)) (rdO 2)))) (ghost (kill [3]) dNx))
    (fun (i : Nat) => PyData.int (((k + i * k : Nat)) : Int)) (List.range (n / k)) (fun done => [some (.v (.int (n : Nat))), some (.o ((List.range (n + 1)).map fun j => natD (strk k done.length j))), some (.v (.int (k : Nat))), none]) fun done i rest e => by
      have hlen : i = done.length := by
        have h1 : (List.range (n / k))[done.length]? = some i := by rw [e]; simp
        have h2 : done.length < n / k := by
          have := congrArg List.length e
          simp at this
          omega
        rw [List.getElem?_range h2] at h1
        exact (Option.some.inj h1).symm
      have hi : i < n / k := List.mem_range.mp (by rw [e]; simp)
      have hj : k + i * k ≤ n := by
        have : (i + 1) * k ≤ n := (Nat.le_div_iff_mul_le (by omega)).mp hi
        rw [Nat.succ_mul] at this
        omega
      have ek : k + i * k = k * (i + 1) := by rw [Nat.mul_succ, Nat.mul_comm]; omega
      have x1 := ix_range (n + 1) (k + i * k) (fun j => natD (strk k done.length j)) (by omega)
      have s1 : strk k done.length (k + i * k) = Tot.cnt (k - 1) (k + i * k) := by
        unfold strk
        rw [if_neg]
        rintro ⟨_, _, h⟩
        rw [← hlen, ek] at h
        have := Nat.le_of_mul_le_mul_left h (by omega)
        omega
      rw [s1] at x1
      have st := Tot.cnt_strike (k := k) (j := k + i * k) hk hp ⟨i + 1, ek⟩
      have d1' : kDiv (natD (Tot.cnt (k - 1) (k + i * k))) (.int (k : Nat)) = some (natD (Tot.cnt (k - 1) (k + i * k) / k)) := by
        show kDiv (.int _) _ = _
        rw [div_ok (by omega) (sm_of (by omega) (by omega))]
        rfl
      have sb : kSub (natD (Tot.cnt (k - 1) (k + i * k))) (natD (Tot.cnt (k - 1) (k + i * k) / k)) = some (natD (Tot.cnt k (k + i * k))) := by
        generalize Tot.cnt (k - 1) (k + i * k) / k = q at st
        show some (PyData.int (((Tot.cnt (k - 1) (k + i * k) : Nat) : Int) - ((q : Nat) : Int))) = some (PyData.int ((Tot.cnt k (k + i * k) : Nat) : Int))
        congr 2
        omega
      have ixn : ixN (n + 1) ((k + i * k : Nat) : Int) = some (k + i * k) := by
        unfold ixN
        rw [if_pos (by omega), if_pos (by omega)]
        rfl
      refine ⟨_, rfl, .inl ?_⟩
      have ef : ((List.range (n + 1)).map fun j => natD (strk k done.length j)).set (k + i * k) (natD (Tot.cnt k (k + i * k))) = (List.range (n + 1)).map fun j => natD (strk k (done ++ [i]).length j) := by
        rw [set_range]
        congr 1
        funext j
        by_cases c : j = k + i * k
        · subst c
          rw [if_pos rfl]
          unfold strk
          rw [if_pos]
          refine ⟨⟨i + 1, ek⟩, by omega, ?_⟩
          rw [List.length_append, List.length_singleton, ← hlen, ek]
          exact Nat.le_refl _
        · rw [if_neg c]
          congr 1
          unfold strk
          rw [List.length_append, List.length_singleton, ← hlen]
          have : (k ∣ j ∧ 1 ≤ j ∧ j ≤ k * i) ↔ (k ∣ j ∧ 1 ≤ j ∧ j ≤ k * (i + 1)) := by
            constructor
            · rintro ⟨a, b, d⟩
              exact ⟨a, b, by rw [Nat.mul_succ]; omega⟩
            · rintro ⟨⟨m, rfl⟩, b, d⟩
              refine ⟨⟨m, rfl⟩, b, ?_⟩
              have h1 := Nat.le_of_mul_le_mul_left d (by omega)
              have h2 : m ≠ i + 1 := by rintro rfl; exact c ek.symm
              exact Nat.mul_le_mul_left _ (by omega)
          by_cases c2 : k ∣ j ∧ 1 ≤ j ∧ j ≤ k * i
          · rw [if_pos c2, if_pos (this.mp c2)]
          · rw [if_neg c2, if_neg fun z => c2 (this.mpr z)]
      clear e st s1 hlen hi hj ek hp
      have lr : (List.range (n + 1)).length = n + 1 := List.length_range
      walk_at "vlh"
  have e0 : ((List.range (n + 1)).map fun j => natD (strk k ([] : List Nat).length j)) = (List.range (n + 1)).map fun j => natD (Tot.cnt (k - 1) j) := by
    congr 1
    funext j
    unfold strk
    rw [if_neg]
    rintro ⟨_, b, d⟩
    simp at d
    omega
  have e1 : ((List.range (n + 1)).map fun j => natD (strk k (List.range (n / k)).length j)) = (List.range (n + 1)).map fun j => natD (Tot.cnt k j) := by
    apply List.map_congr_left
    intro j hj
    have hj' := List.mem_range.mp hj
    congr 1
    unfold strk
    rw [List.length_range]
    by_cases c : k ∣ j ∧ 1 ≤ j ∧ j ≤ k * (n / k)
    · rw [if_pos c]
    · rw [if_neg c]
      by_cases hd : k ∣ j
      · by_cases h0 : j = 0
        · subst h0; rw [cnt_zero, cnt_zero]
        · exfalso
          obtain ⟨m, rfl⟩ := hd
          apply c
          refine ⟨⟨m, rfl⟩, by omega, Nat.mul_le_mul_left _ ?_⟩
          rw [Nat.le_div_iff_mul_le (by omega), Nat.mul_comm]
          omega
      · exact (Tot.cnt_keep hk fun z => absurd z hd).symm
  rw [e0, e1] at go
  exact go

theorem sum_range (f : Nat → Nat) : ∀ m, ((List.range m).map fun j => ((f j : Nat) : Int)).sum = ((Tot.sm f m : Nat) : Int)
  | 0 => rfl
  | m + 1 => by
    rw [List.range_succ, List.map_append, List.sum_append, sum_range f m]
    show _ + (((f m : Nat) : Int) + 0) = ((Tot.sm f m + f m : Nat) : Int)
    omega
theorem sieved_eq (n : Nat) (h1 : 1 ≤ n) (hn : n ≤ 1000000) : M__law_sieved [.int (n : Nat)] = some (.int ((8 * Tot.Tot n : Nat) : Int)) := by
  unfold M__law_sieved b__law_sieved
  have l1 : kLRg1 (.int ((n : Int) + 1)) = some ((List.range (n + 1)).map fun j => natD (Tot.cnt (1 + 0) j)) := by
    show (if cRg 0 ((n : Int) + 1) = true then some (rgD 0 ((n : Int) + 1)) else none) = _
    rw [if_pos]
    · have e : ((n : Int) + 1) = ((n + 1 : Nat) : Int) := by omega
      rw [e, rg0]
      congr 2
      funext j
      rw [Tot.cnt_one]
      rfl
    · unfold cRg
      rw [decide_eq_true (show (0 : Int).natAbs < 4611686018427387904 by decide), decide_eq_true (show ((n : Int) + 1).natAbs < 4611686018427387904 by omega), decide_eq_true (show ((n : Int) + 1 - 0).toNat ≤ 16777216 by omega)]
      rfl
  have r2 : kR2 (.int 2) (.int ((n : Int) + 1)) = some ((List.range (n - 1)).map fun (i : Nat) => PyData.int (2 + (i : Nat))) := by
    rw [kR2_ok (by omega) (by omega) (by omega) (by omega)]
    have e : ((n : Int) + 1 - 2).toNat = n - 1 := by omega
    rw [e]
  have go := goFor_rng (T := .n 2) (body := (dIf (d2 cEq (d2 kIx (rdO 1) (rdO 2)) (rdO 2))
  (dSeq (dFor (d3 kR3 (rdO 2) (d2 kAdd (rdO 0) (dC (.int 1))) (rdO 2)) (.n 3)
  (dSeq (dPut 1 (rdO 3) (d2 kSub (d2 kIx (rdO 1) (rdO 3)) (d2 kDiv (d2 kIx (rdO 1) (rdO 3)) (rdO 2))))
  (ghost (kill [3]) dNx)))
  (ghost (kill [2, 3]) dNx))
  (ghost (kill [2]) dNx))) (n - 1) 2 (fun i => [some (.v (.int (n : Nat))), some (.o ((List.range (n + 1)).map fun j => natD (Tot.cnt (1 + i) j))), none, none]) fun i hi => by
    have ek : (2 : Int) + (i : Nat) = ((2 + i : Nat) : Int) := by omega
    have e1 : 1 + i = (2 + i) - 1 := by omega
    have e2 : 1 + (i + 1) = 2 + i := by omega
    rw [ek, e2, e1]
    have x1 := ix_range (n + 1) (2 + i) (fun j => natD (Tot.cnt (2 + i - 1) j)) (by omega)
    refine ⟨_, rfl, .inl ?_⟩
    by_cases hp : Tot.pr (2 + i)
    · have c1 : Tot.cnt (2 + i - 1) (2 + i) = 2 + i := (Tot.cnt_self (by omega)).mpr hp
      rw [c1] at x1
      have ce : cEq (natD (2 + i)) (.int ((2 + i : Nat) : Int)) = some true := by
        show cEq (.int _) (.int _) = _
        rw [eq_ok, decide_eq_true rfl]
      have ru := range_up (2 + i) n (by omega) (by omega) hn
      have st := sieve_turn n (2 + i) (by omega) (by omega) hn hp
      clear hp r2 l1 ek e1 e2 c1 hi
      walk_at "vlh"
    · have c1 : ¬ Tot.cnt (2 + i - 1) (2 + i) = 2 + i := fun z => hp ((Tot.cnt_self (by omega)).mp z)
      have ce : cEq (natD (Tot.cnt (2 + i - 1) (2 + i))) (.int ((2 + i : Nat) : Int)) = some false := by
        show cEq (.int _) (.int _) = _
        rw [eq_ok, decide_eq_false (by omega)]
      have ef : ((List.range (n + 1)).map fun j => natD (Tot.cnt (2 + i - 1) j)) = (List.range (n + 1)).map fun j => natD (Tot.cnt (2 + i) j) := by
        congr 1
        funext j
        rw [Tot.cnt_keep (by omega) fun _ => hp]
      rw [ef] at x1 ⊢
      clear hp r2 l1 ek e1 e2 c1 hi ef
      walk_at "vlh"
  have s1 : kSum (.list ((List.range (n + 1)).map fun j => natD (Tot.cnt (1 + (n - 1)) j))) = some (.int ((Tot.Tot n : Nat) : Int)) := by
    have e : (List.range (n + 1)).map (fun j => natD (Tot.cnt (1 + (n - 1)) j)) = ((List.range (n + 1)).map fun j => ((Tot.cnt (1 + (n - 1)) j : Nat) : Int)).map PyData.int := by rw [List.map_map]; rfl
    rw [e]
    show (match ints? _ with | some ns => some (PyData.int ns.sum) | _ => none) = _
    rw [ints?_map]
    show some (PyData.int (List.map (fun j => ((Tot.cnt (1 + (n - 1)) j : Nat) : Int)) (List.range (n + 1))).sum) = _
    rw [sum_range]
    congr 3
    have e2 : 1 + (n - 1) = n := by omega
    rw [e2, Nat.add_comm n 1, Tot.sm_app]
    have e3 : Tot.sm (Tot.cnt n) 1 = 0 := by
      show 0 + Tot.cnt n 0 = 0
      rw [cnt_zero]
    rw [e3, Nat.zero_add]
    unfold Tot.Tot
    apply Tot.sm_congr
    intro i hi
    rw [Nat.add_comm 1 i, Tot.cnt_tot (by omega)]
  have tl : Tot.Tot n ≤ 1000000000000 := by
    have h := Tot.tot_pairs n
    obtain ⟨m, rfl⟩ : ∃ m, n = m + 1 := ⟨n - 1, by omega⟩
    have e4 : ∀ f : Nat → Nat, Tot.sm f (m + 1) = Tot.sm f (1 + m) := fun f => by rw [Nat.add_comm]
    rw [e4, Tot.sm_app] at h
    have e1 : Tot.sm (fun l => Tot.Tot ((m + 1) / (l + 1))) 1 = Tot.Tot (m + 1) := by
      show 0 + Tot.Tot ((m + 1) / (0 + 1)) = _
      rw [Nat.zero_add, Nat.zero_add, Nat.div_one]
    rw [e1] at h
    have : (m + 1) * (m + 1 + 1) ≤ 1000000 * 1000001 := Nat.mul_le_mul hn (by omega)
    omega
  have mu := mul_ok (i := 8) (j := ((Tot.Tot n : Nat) : Int)) (sm_of (by omega) (by omega)) (sm_of (by omega) (by omega))
  clear h1 hn tl
  walk_at "vlh"
  rfl
end VL

set_option Elab.async false
set_option linter.all false
set_option maxRecDepth 100000
set_option maxHeartbeats 4000000
namespace VL
open PySem PySem.Spec PyProof.Rows L2
def top (i : Nat) : Stmt := PySem.Challenge.pw_gridplots_k43_farey_fans.main.body.getD i (.Pass ⟨0, 0, 0, 0⟩)
abbrev s_first_eighth : Stmt := top 1
theorem sc_first_eighth : FnScope ["size", "found", "p", "q", "r", "s", "times"] ["size"] (defScope s_first_eighth) := ⟨rfl, rfl, rfl, by decide +kernel, rfl, by decide +kernel, by decide +kernel⟩
theorem k_first_eighth {P : Program} {w : World} {K : PySem.W.Frag} {mg : Str → Option Value} {base : Heap} {f : Addr} {fd : FuncData} (F : FnP K "first_eighth" s_first_eighth f fd) (hf : mg "first_eighth" = some (.ref f)) : Cal P w K mg base "first_eighth" ["size"] 1 (spV K true [false] M_first_eighth) := by
  refine def_cal 0 7 M_first_eighth F hf sc_first_eighth rfl rfl rfl (fun _ _ _ _ _ _ => by1 fun _ => rfl) fun cdv A outer s H E hr => ?_
  have S := sc_first_eighth
  have hu := hr.units
  exact (vss_cons (vs_setF 1 S.nd (vf_lst (va_e (ve_tup (va_e ve_int (va_e ve_int va_nil))) va_nil)))
  (vss_cons (vs_asg (.t [2, 3]) (ve_tup (va_e ve_int (va_e ve_int va_nil))) (tg_tup rfl (tgs_cons 2 S.nd (tgs_cons 3 S.nd tgs_nil))))
  (vss_cons (vs_par 4 5 rfl S.nd (by decide) (va_e (ve_var 0) (va_e ve_int va_nil)))
  (vss_cons (vs_while .never (vt_ne hu (ve_tup (va_e (ve_var 4) (va_e (ve_var 5) va_nil))).vo (ve_tup (va_e ve_int (va_e ve_int va_nil))).vo)
  (vss_cons (vs_app 1 (ve_tup (va_e (ve_var 4) (va_e (ve_var 5) va_nil))))
  (vss_cons (vs_set 6 S.nd (ve_div (ve_add (vo_var 0) (vo_var 2)).vo (vo_var 4)))
  (vss_cons (vs_asg (.t [2, 3, 4, 5]) (ve_tup (va_e (ve_var 4) (va_e (ve_var 5) (va_e (ve_sub (ve_mul (vo_var 6) (vo_var 4)).vo (vo_var 2)) (va_e (ve_sub (ve_mul (vo_var 6) (vo_var 5)).vo (vo_var 3)) va_nil))))) (tg_tup rfl (tgs_cons 2 S.nd (tgs_cons 3 S.nd (tgs_cons 4 S.nd (tgs_cons 5 S.nd tgs_nil))))))
  (vss_kill [6] vss_nil)))))
  (vss_kill [0, 2, 3, 4, 5, 6] (vss_cons (vs_app 1 (ve_tup (va_e ve_int (va_e ve_int va_nil))))
  (vss_one (vs_retO 1))))))))

abbrev s_first_quarter : Stmt := top 2
theorem sc_first_quarter : FnScope ["size", "eighth", "found", "at"] ["size"] (defScope s_first_quarter) := ⟨rfl, rfl, rfl, by decide +kernel, rfl, by decide +kernel, by decide +kernel⟩
theorem k_first_quarter {P : Program} {w : World} {K : PySem.W.Frag} {mg : Str → Option Value} {base : Heap} {f : Addr} {fd : FuncData} (F : FnP K "first_quarter" s_first_quarter f fd) (hf : mg "first_quarter" = some (.ref f)) (g_list : mg "list" = none) (g_range : mg "range" = none) (g_len : mg "len" = none) (c_first_eighth : Cal P w K mg base "first_eighth" ["size"] 1 (spV K true [false] M_first_eighth)) : Cal P w K mg base "first_quarter" ["size"] 2 (spV K true [false] M_first_quarter) := by
  refine def_cal 1 4 M_first_quarter F hf sc_first_quarter rfl rfl rfl (fun _ _ _ _ _ _ => by1 fun _ => rfl) fun cdv A outer s H E hr => ?_
  have S := sc_first_quarter
  have hu := hr.units
  exact (vss_cons (vs_set 1 S.nd (vf_call c_first_eighth (hr.mono (by decide)) (by rfl) (va_e (ve_var 0) va_nil)).ve)
  (vss_cons (vs_setF 2 S.nd (vf_toList (by rfl) g_list (vo_var 1)))
  (vss_kill [0] (vss_cons (vs_for (.n 3) .never rfl (vi_rng3 (by rfl) g_range (ve_sub (ve_len (by rfl) g_len (vo_var 1)).vo ve_int.vo).vo ve_int.vo (ve_neg ve_int.vo).vo) (tg_name 3 S.nd (by rfl) (by first | exact Or.inl rfl | exact Or.inr rfl))
  (vss_cons (vs_app 2 (ve_tup (va_e (ve_ix (ve_ix (vo_var 1) (vo_var 3)).vo ve_int.vo) (va_e (ve_ix (ve_ix (vo_var 1) (vo_var 3)).vo ve_int.vo) va_nil))))
  (vss_kill [3] vss_nil)))
  (vss_kill [1, 3] (vss_one (vs_retO 2)))))))

abbrev s_farey_fan : Stmt := top 3
theorem sc_farey_fan : FnScope ["size", "found", "quarter", "_", "p", "q"] ["size"] (defScope s_farey_fan) := ⟨rfl, rfl, rfl, by decide +kernel, rfl, by decide +kernel, by decide +kernel⟩
theorem k_farey_fan {P : Program} {w : World} {K : PySem.W.Frag} {mg : Str → Option Value} {base : Heap} {f : Addr} {fd : FuncData} (F : FnP K "farey_fan" s_farey_fan f fd) (hf : mg "farey_fan" = some (.ref f)) (g_range : mg "range" = none) (c_first_quarter : Cal P w K mg base "first_quarter" ["size"] 2 (spV K true [false] M_first_quarter)) : Cal P w K mg base "farey_fan" ["size"] 3 (spV K true [false] M_farey_fan) := by
  refine def_cal 2 6 M_farey_fan F hf sc_farey_fan rfl rfl rfl (fun _ _ _ _ _ _ => by1 fun _ => rfl) fun cdv A outer s H E hr => ?_
  have S := sc_farey_fan
  have hu := hr.units
  exact (vss_cons (vs_setF 1 S.nd (vf_lst va_nil))
  (vss_cons (vs_setF 2 S.nd (vf_call c_first_quarter (hr.mono (by decide)) (by rfl) (va_e (ve_var 0) va_nil)))
  (vss_kill [0] (vss_cons (vs_for (.n 3) .never rfl (vi_rng1 (by rfl) g_range ve_int.vo) (tg_name 3 S.nd (by rfl) (by first | exact Or.inl rfl | exact Or.inr rfl))
  (vss_cons (vs_ext 1 2 (by decide))
  (vss_cons (vs_setLc 2 [("p", 4), ("q", 5)] (.t [4, 5]) rfl S.nd (vic_list (vo_var 2)) (blkOk_by (N := ["size", "found", "quarter", "_", "p", "q"]) (sc := defScope s_farey_fan) (by decide +kernel)) (fun _ _ _ _ _ => (tg_tup rfl (tgs_cons 4 S.nd (tgs_cons 5 S.nd tgs_nil)))) (fun _ _ _ _ _ => vts_nil) (fun _ _ _ _ _ => (ve_tup (va_e (ve_neg (vo_var 5)) (va_e (ve_var 4) va_nil)))) (sw_true rfl rfl rfl (by decide +kernel)))
  (vss_kill [3] vss_nil))))
  (vss_kill [2, 3] (vss_one (vs_retO 1)))))))

abbrev s_shares_with : Stmt := top 4
theorem sc_shares_with : FnScope ["value", "found", "length"] ["value"] (defScope s_shares_with) := ⟨rfl, rfl, rfl, by decide +kernel, rfl, by decide +kernel, by decide +kernel⟩
theorem k_shares_with {P : Program} {w : World} {K : PySem.W.Frag} {mg : Str → Option Value} {base : Heap} {f : Addr} {fd : FuncData} (F : FnP K "shares_with" s_shares_with f fd) (hf : mg "shares_with" = some (.ref f)) : Cal P w K mg base "shares_with" ["value"] 1 (spV K true [false] M_shares_with) := by
  refine def_cal 0 3 M_shares_with F hf sc_shares_with rfl rfl rfl (fun _ _ _ _ _ _ => by1 fun _ => rfl) fun cdv A outer s H E hr => ?_
  have S := sc_shares_with
  have hu := hr.units
  exact (vss_cons (vs_setF 1 S.nd (vf_lst va_nil))
  (vss_cons (vs_set 2 S.nd ve_int)
  (vss_cons (vs_while .never (vt_le (vo_var 2) (vo_var 0))
  (vss_cons (vs_app 1 (ve_div (vo_var 0) (vo_var 2)))
  (vss_one (vs_set 2 S.nd (ve_add (ve_div (vo_var 0) (ve_div (vo_var 0) (vo_var 2)).vo).vo ve_int.vo)))))
  (vss_kill [0, 2] (vss_one (vs_retF (vf_rev (vo_var 1))))))))

abbrev s_is_number : Stmt := top 8
theorem sc_is_number : FnScope ["value"] ["value"] (defScope s_is_number) := ⟨rfl, rfl, rfl, by decide +kernel, rfl, by decide +kernel, by decide +kernel⟩
theorem k_is_number {P : Program} {w : World} {K : PySem.W.Frag} {mg : Str → Option Value} {base : Heap} {f : Addr} {fd : FuncData} (F : FnP K "is_number" s_is_number f fd) (hf : mg "is_number" = some (.ref f)) (g_isinstance : mg "isinstance" = none) (g_int : mg "int" = none) (g_bool : mg "bool" = none) : Cal P w K mg base "is_number" ["value"] 1 (spV K false [false] M_is_number) := by
  refine def_cal 0 1 M_is_number F hf sc_is_number rfl rfl rfl (fun _ _ _ _ _ _ => by1 fun _ => rfl) fun cdv A outer s H E hr => ?_
  have S := sc_is_number
  have hu := hr.units
  exact (vss_one (vs_ret (ve_and (ve_isiInt (by rfl) g_isinstance (by rfl) g_int (vo_var 0)) (ve_one (ve_not (ve_isiBool (by rfl) g_isinstance (by rfl) g_bool (vo_var 0)))))))

abbrev s_is_number_tuple : Stmt := top 9
theorem sc_is_number_tuple : FnScope ["value", "width", "item"] ["value", "width"] (defScope s_is_number_tuple) := ⟨rfl, rfl, rfl, by decide +kernel, rfl, by decide +kernel, by decide +kernel⟩
theorem k_is_number_tuple {P : Program} {w : World} {K : PySem.W.Frag} {mg : Str → Option Value} {base : Heap} {f : Addr} {fd : FuncData} (F : FnP K "is_number_tuple" s_is_number_tuple f fd) (hf : mg "is_number_tuple" = some (.ref f)) (g_isinstance : mg "isinstance" = none) (g_tuple : mg "tuple" = none) (g_len : mg "len" = none) (c_is_number : Cal P w K mg base "is_number" ["value"] 1 (spV K false [false] M_is_number)) : Cal P w K mg base "is_number_tuple" ["value", "width"] 2 (spV K false [false, false] M_is_number_tuple) := by
  refine def_cal 1 3 M_is_number_tuple F hf sc_is_number_tuple rfl rfl rfl (fun _ _ _ _ _ _ => by2 fun _ _ => rfl) fun cdv A outer s H E hr => ?_
  have S := sc_is_number_tuple
  have hu := hr.units
  exact (vss_cons (vs_if (vw_or (vt_not (vt_val (ve_isiTup (by rfl) g_isinstance (by rfl) g_tuple (vo_var 0)).vo)) (vw_or1 (vt_ne hu (ve_len (by rfl) g_len (vo_var 0)).vo (vo_var 1)))).vt
  (vss_one (vs_ret ve_bl))
  vss_nil)
  (vss_kill [1] (vss_cons (vs_for (.n 2) .never rfl (vi_tup (ve_var 0)) (tg_name 2 S.nd (by rfl) (by first | exact Or.inl rfl | exact Or.inr rfl))
  (vss_cons (vs_if (vt_not (vt_val (ve_call c_is_number (hr.mono (by decide)) (by rfl) (va_e (ve_var 2) va_nil)).vo))
  (vss_one (vs_ret ve_bl))
  vss_nil)
  (vss_kill [2] vss_nil)))
  (vss_kill [0, 2] (vss_one (vs_ret ve_bl))))))

abbrev s_is_vector : Stmt := top 10
theorem sc_is_vector : FnScope ["value"] ["value"] (defScope s_is_vector) := ⟨rfl, rfl, rfl, by decide +kernel, rfl, by decide +kernel, by decide +kernel⟩
theorem k_is_vector {P : Program} {w : World} {K : PySem.W.Frag} {mg : Str → Option Value} {base : Heap} {f : Addr} {fd : FuncData} (F : FnP K "is_vector" s_is_vector f fd) (hf : mg "is_vector" = some (.ref f)) (c_is_number_tuple : Cal P w K mg base "is_number_tuple" ["value", "width"] 2 (spV K false [false, false] M_is_number_tuple)) : Cal P w K mg base "is_vector" ["value"] 3 (spV K false [false] M_is_vector) := by
  refine def_cal 2 1 M_is_vector F hf sc_is_vector rfl rfl rfl (fun _ _ _ _ _ _ => by1 fun _ => rfl) fun cdv A outer s H E hr => ?_
  have S := sc_is_vector
  have hu := hr.units
  exact (vss_one (vs_ret (ve_call c_is_number_tuple (hr.mono (by decide)) (by rfl) (va_e (ve_var 0) (va_e ve_int va_nil)))))

abbrev s_divisor_of : Stmt := top 12
theorem sc_divisor_of : FnScope ["first", "second"] ["first", "second"] (defScope s_divisor_of) := ⟨rfl, rfl, rfl, by decide +kernel, rfl, by decide +kernel, by decide +kernel⟩
theorem k_divisor_of {P : Program} {w : World} {K : PySem.W.Frag} {mg : Str → Option Value} {base : Heap} {f : Addr} {fd : FuncData} (F : FnP K "divisor_of" s_divisor_of f fd) (hf : mg "divisor_of" = some (.ref f)) (g_abs : mg "abs" = none) : Cal P w K mg base "divisor_of" ["first", "second"] 1 (spV K false [false, false] M_divisor_of) := by
  refine def_cal 0 2 M_divisor_of F hf sc_divisor_of rfl rfl rfl (fun _ _ _ _ _ _ => by2 fun _ _ => rfl) fun cdv A outer s H E hr => ?_
  have S := sc_divisor_of
  have hu := hr.units
  exact (vss_cons (vs_set 0 S.nd (ve_abs (by rfl) g_abs (vo_var 0)))
  (vss_cons (vs_set 1 S.nd (ve_abs (by rfl) g_abs (vo_var 1)))
  (vss_cons (vs_while .never (vt_ne hu (vo_var 1) ve_int.vo)
  (vss_one (vs_par 0 1 rfl S.nd (by decide) (va_e (ve_var 1) (va_e (ve_mod (vo_var 0) (vo_var 1)) va_nil)))))
  (vss_kill [1] (vss_one (vs_ret (ve_var 0)))))))

abbrev s_is_primitive : Stmt := top 13
theorem sc_is_primitive : FnScope ["vector"] ["vector"] (defScope s_is_primitive) := ⟨rfl, rfl, rfl, by decide +kernel, rfl, by decide +kernel, by decide +kernel⟩
theorem k_is_primitive {P : Program} {w : World} {K : PySem.W.Frag} {mg : Str → Option Value} {base : Heap} {f : Addr} {fd : FuncData} (F : FnP K "is_primitive" s_is_primitive f fd) (hf : mg "is_primitive" = some (.ref f)) (c_divisor_of : Cal P w K mg base "divisor_of" ["first", "second"] 1 (spV K false [false, false] M_divisor_of)) : Cal P w K mg base "is_primitive" ["vector"] 2 (spV K false [false] M_is_primitive) := by
  refine def_cal 1 1 M_is_primitive F hf sc_is_primitive rfl rfl rfl (fun _ _ _ _ _ _ => by1 fun _ => rfl) fun cdv A outer s H E hr => ?_
  have S := sc_is_primitive
  have hu := hr.units
  exact (vss_one (vs_ret (ve_eq hu (ve_call c_divisor_of (hr.mono (by decide)) (by rfl) (va_e (ve_ix (vo_var 0) ve_int.vo) (va_e (ve_ix (vo_var 0) ve_int.vo) va_nil))).vo ve_int.vo)))

abbrev s_crossed : Stmt := top 14
theorem sc_crossed : FnScope ["first", "second"] ["first", "second"] (defScope s_crossed) := ⟨rfl, rfl, rfl, by decide +kernel, rfl, by decide +kernel, by decide +kernel⟩
theorem k_crossed {P : Program} {w : World} {K : PySem.W.Frag} {mg : Str → Option Value} {base : Heap} {f : Addr} {fd : FuncData} (F : FnP K "crossed" s_crossed f fd) (hf : mg "crossed" = some (.ref f)) : Cal P w K mg base "crossed" ["first", "second"] 1 (spV K false [false, false] M_crossed) := by
  refine def_cal 0 2 M_crossed F hf sc_crossed rfl rfl rfl (fun _ _ _ _ _ _ => by2 fun _ _ => rfl) fun cdv A outer s H E hr => ?_
  have S := sc_crossed
  have hu := hr.units
  exact (vss_one (vs_ret (ve_sub (ve_mul (ve_ix (vo_var 0) ve_int.vo).vo (ve_ix (vo_var 1) ve_int.vo).vo).vo (ve_mul (ve_ix (vo_var 0) ve_int.vo).vo (ve_ix (vo_var 1) ve_int.vo).vo).vo)))

abbrev s_is_upper : Stmt := top 16
theorem sc_is_upper : FnScope ["vector"] ["vector"] (defScope s_is_upper) := ⟨rfl, rfl, rfl, by decide +kernel, rfl, by decide +kernel, by decide +kernel⟩
theorem k_is_upper {P : Program} {w : World} {K : PySem.W.Frag} {mg : Str → Option Value} {base : Heap} {f : Addr} {fd : FuncData} (F : FnP K "is_upper" s_is_upper f fd) (hf : mg "is_upper" = some (.ref f)) : Cal P w K mg base "is_upper" ["vector"] 1 (spV K false [false] M_is_upper) := by
  refine def_cal 0 1 M_is_upper F hf sc_is_upper rfl rfl rfl (fun _ _ _ _ _ _ => by1 fun _ => rfl) fun cdv A outer s H E hr => ?_
  have S := sc_is_upper
  have hu := hr.units
  exact (vss_one (vs_ret (ve_or (ve_gt (ve_ix (vo_var 0) ve_int.vo).vo ve_int.vo) (ve_one (ve_and (ve_eq hu (ve_ix (vo_var 0) ve_int.vo).vo ve_int.vo) (ve_one (ve_gt (ve_ix (vo_var 0) ve_int.vo).vo ve_int.vo)))))))

abbrev s_step_products : Stmt := top 17
theorem sc_step_products : FnScope ["rays", "at"] ["rays"] (defScope s_step_products) := ⟨rfl, rfl, rfl, by decide +kernel, rfl, by decide +kernel, by decide +kernel⟩
theorem k_step_products {P : Program} {w : World} {K : PySem.W.Frag} {mg : Str → Option Value} {base : Heap} {f : Addr} {fd : FuncData} (F : FnP K "step_products" s_step_products f fd) (hf : mg "step_products" = some (.ref f)) (g_range : mg "range" = none) (g_len : mg "len" = none) (c_crossed : Cal P w K mg base "crossed" ["first", "second"] 1 (spV K false [false, false] M_crossed)) : Cal P w K mg base "step_products" ["rays"] 2 (spV K true [true] M_step_products) := by
  refine def_cal 1 2 M_step_products F hf sc_step_products rfl rfl rfl (fun _ _ _ _ _ _ => by1 fun _ => rfl) fun cdv A outer s H E hr => ?_
  have S := sc_step_products
  have hu := hr.units
  exact (vss_one (vs_retF (vf_lc [("at", 1)] (.n 1) rfl S.nd (vi_rng1 (by rfl) g_range (ve_len (by rfl) g_len (vo_var 0)).vo).comp (blkOk_by (N := ["rays", "at"]) (sc := defScope s_step_products) (by decide +kernel)) (fun _ _ _ _ _ => (tg_name 1 S.nd (by rfl) (by first | exact Or.inl rfl | exact Or.inr rfl))) (fun _ _ _ _ _ => vts_nil) (fun _ _ _ _ _ => (ve_call c_crossed (hr.mono (by decide)) (by rfl) (va_e (ve_ix (vo_var 0) (vo_var 1)) (va_e (ve_ix (vo_var 0) (ve_mod (ve_add (vo_var 1) ve_int.vo).vo (ve_len (by rfl) g_len (vo_var 0)).vo).vo) va_nil)))))))

abbrev s_rounds : Stmt := top 18
theorem sc_rounds : FnScope ["rays", "count", "at"] ["rays"] (defScope s_rounds) := ⟨rfl, rfl, rfl, by decide +kernel, rfl, by decide +kernel, by decide +kernel⟩
theorem k_rounds {P : Program} {w : World} {K : PySem.W.Frag} {mg : Str → Option Value} {base : Heap} {f : Addr} {fd : FuncData} (F : FnP K "rounds" s_rounds f fd) (hf : mg "rounds" = some (.ref f)) (g_range : mg "range" = none) (g_len : mg "len" = none) (c_is_upper : Cal P w K mg base "is_upper" ["vector"] 1 (spV K false [false] M_is_upper)) : Cal P w K mg base "rounds" ["rays"] 2 (spV K false [true] M_rounds) := by
  refine def_cal 1 3 M_rounds F hf sc_rounds rfl rfl rfl (fun _ _ _ _ _ _ => by1 fun _ => rfl) fun cdv A outer s H E hr => ?_
  have S := sc_rounds
  have hu := hr.units
  exact (vss_cons (vs_set 1 S.nd ve_int)
  (vss_cons (vs_for (.n 2) .never rfl (vi_rng1 (by rfl) g_range (ve_len (by rfl) g_len (vo_var 0)).vo) (tg_name 2 S.nd (by rfl) (by first | exact Or.inl rfl | exact Or.inr rfl))
  (vss_cons (vs_if (vw_and (vt_val (ve_call c_is_upper (hr.mono (by decide)) (by rfl) (va_e (ve_ix (vo_var 0) (vo_var 2)) va_nil)).vo) (vw_and1 (vt_not (vt_val (ve_call c_is_upper (hr.mono (by decide)) (by rfl) (va_e (ve_ix (vo_var 0) (ve_sub (vo_var 2) ve_int.vo).vo) va_nil)).vo)))).vt
  (vss_one (vs_set 1 S.nd (ve_add (vo_var 1) ve_int.vo)))
  vss_nil)
  (vss_kill [2] vss_nil)))
  (vss_kill [0, 2] (vss_one (vs_ret (ve_var 1))))))

abbrev s_is_fan : Stmt := top 19
theorem sc_is_fan : FnScope ["value", "ray"] ["value"] (defScope s_is_fan) := ⟨rfl, rfl, rfl, by decide +kernel, rfl, by decide +kernel, by decide +kernel⟩
theorem k_is_fan {P : Program} {w : World} {K : PySem.W.Frag} {mg : Str → Option Value} {base : Heap} {f : Addr} {fd : FuncData} (F : FnP K "is_fan" s_is_fan f fd) (hf : mg "is_fan" = some (.ref f)) (g_isinstance : mg "isinstance" = none) (g_list : mg "list" = none) (g_len : mg "len" = none) (g_min : mg "min" = none) (c_is_vector : Cal P w K mg base "is_vector" ["value"] 3 (spV K false [false] M_is_vector)) (c_is_primitive : Cal P w K mg base "is_primitive" ["vector"] 2 (spV K false [false] M_is_primitive)) (c_step_products : Cal P w K mg base "step_products" ["rays"] 2 (spV K true [true] M_step_products)) (c_rounds : Cal P w K mg base "rounds" ["rays"] 2 (spV K false [true] M_rounds)) : Cal P w K mg base "is_fan" ["value"] 4 (spV K false [true] M_is_fan) := by
  refine def_cal 3 2 M_is_fan F hf sc_is_fan rfl rfl rfl (fun _ _ _ _ _ _ => by1 fun _ => rfl) fun cdv A outer s H E hr => ?_
  have S := sc_is_fan
  have hu := hr.units
  exact (vss_cons (vs_if (vw_or (vt_not (vt_val (ve_isiList (by rfl) g_isinstance (by rfl) g_list (vo_var 0)).vo)) (vw_or1 (vt_lt (ve_len (by rfl) g_len (vo_var 0)).vo ve_int.vo))).vt
  (vss_one (vs_ret ve_bl))
  vss_nil)
  (vss_cons (vs_for (.n 1) .never rfl (vi_var 0) (tg_name 1 S.nd (by rfl) (by first | exact Or.inl rfl | exact Or.inr rfl))
  (vss_cons (vs_if (vw_or (vt_not (vt_val (ve_call c_is_vector (hr.mono (by decide)) (by rfl) (va_e (ve_var 1) va_nil)).vo)) (vw_or1 (vt_not (vt_val (ve_call c_is_primitive (hr.mono (by decide)) (by rfl) (va_e (ve_var 1) va_nil)).vo)))).vt
  (vss_one (vs_ret ve_bl))
  vss_nil)
  (vss_kill [1] vss_nil)))
  (vss_kill [1] (vss_one (vs_ret (ve_and (ve_ge (ve_min rfl (by rfl) g_min (vf_call c_step_products (hr.mono (by decide)) (by rfl) (va_o (vo_var 0) va_nil)).vo).vo ve_int.vo) (ve_one (ve_eq hu (ve_call c_rounds (hr.mono (by decide)) (by rfl) (va_o (vo_var 0) va_nil)).vo ve_int.vo))))))))

abbrev s_is_smooth : Stmt := top 20
theorem sc_is_smooth : FnScope ["fan"] ["fan"] (defScope s_is_smooth) := ⟨rfl, rfl, rfl, by decide +kernel, rfl, by decide +kernel, by decide +kernel⟩
theorem k_is_smooth {P : Program} {w : World} {K : PySem.W.Frag} {mg : Str → Option Value} {base : Heap} {f : Addr} {fd : FuncData} (F : FnP K "is_smooth" s_is_smooth f fd) (hf : mg "is_smooth" = some (.ref f)) (g_max : mg "max" = none) (c_step_products : Cal P w K mg base "step_products" ["rays"] 2 (spV K true [true] M_step_products)) : Cal P w K mg base "is_smooth" ["fan"] 3 (spV K false [true] M_is_smooth) := by
  refine def_cal 2 1 M_is_smooth F hf sc_is_smooth rfl rfl rfl (fun _ _ _ _ _ _ => by1 fun _ => rfl) fun cdv A outer s H E hr => ?_
  have S := sc_is_smooth
  have hu := hr.units
  exact (vss_one (vs_ret (ve_eq hu (ve_max rfl (by rfl) g_max (vf_call c_step_products (hr.mono (by decide)) (by rfl) (va_o (vo_var 0) va_nil)).vo).vo ve_int.vo)))

abbrev s_fan_numbers : Stmt := top 21
theorem sc_fan_numbers : FnScope ["fan", "count", "at"] ["fan"] (defScope s_fan_numbers) := ⟨rfl, rfl, rfl, by decide +kernel, rfl, by decide +kernel, by decide +kernel⟩
theorem k_fan_numbers {P : Program} {w : World} {K : PySem.W.Frag} {mg : Str → Option Value} {base : Heap} {f : Addr} {fd : FuncData} (F : FnP K "fan_numbers" s_fan_numbers f fd) (hf : mg "fan_numbers" = some (.ref f)) (g_len : mg "len" = none) (g_range : mg "range" = none) (c_crossed : Cal P w K mg base "crossed" ["first", "second"] 1 (spV K false [false, false] M_crossed)) : Cal P w K mg base "fan_numbers" ["fan"] 2 (spV K true [true] M_fan_numbers) := by
  refine def_cal 1 3 M_fan_numbers F hf sc_fan_numbers rfl rfl rfl (fun _ _ _ _ _ _ => by1 fun _ => rfl) fun cdv A outer s H E hr => ?_
  have S := sc_fan_numbers
  have hu := hr.units
  exact (vss_cons (vs_set 1 S.nd (ve_len (by rfl) g_len (vo_var 0)))
  (vss_one (vs_retF (vf_lc [("at", 2)] (.n 2) rfl S.nd (vi_rng1 (by rfl) g_range (vo_var 1)).comp (blkOk_by (N := ["fan", "count", "at"]) (sc := defScope s_fan_numbers) (by decide +kernel)) (fun _ _ _ _ _ => (tg_name 2 S.nd (by rfl) (by first | exact Or.inl rfl | exact Or.inr rfl))) (fun _ _ _ _ _ => vts_nil) (fun _ _ _ _ _ => (ve_call c_crossed (hr.mono (by decide)) (by rfl) (va_e (ve_ix (vo_var 0) (ve_sub (vo_var 2) ve_int.vo).vo) (va_e (ve_ix (vo_var 0) (ve_mod (ve_add (vo_var 2) ve_int.vo).vo (vo_var 1)).vo) va_nil))))))))

abbrev s__law_draws : Stmt := top 23
theorem sc__law_draws : FnScope ["script", "many", "found", "cell", "k", "number", "mixed", "base"] ["script", "many"] (defScope s__law_draws) := ⟨rfl, rfl, rfl, by decide +kernel, rfl, by decide +kernel, by decide +kernel⟩
theorem k__law_draws {P : Program} {w : World} {K : PySem.W.Frag} {mg : Str → Option Value} {base : Heap} {f : Addr} {fd : FuncData} (F : FnP K "_law_draws" s__law_draws f fd) (hf : mg "_law_draws" = some (.ref f)) (g_abs : mg "abs" = none) (g_int : mg "int" = none) (g_range : mg "range" = none) (g_len : mg "len" = none) : Cal P w K mg base "_law_draws" ["script", "many"] 1 (spV K true [true, false] M__law_draws) := by
  refine def_cal 0 8 M__law_draws F hf sc__law_draws rfl rfl rfl (fun _ _ _ _ _ _ => by2 fun _ _ => rfl) fun cdv A outer s H E hr => ?_
  have S := sc__law_draws
  have hu := hr.units
  exact (vss_cons (vs_setF 2 S.nd (vf_lst va_nil))
  (vss_cons (vs_for (.n 3) .never rfl (vi_list (vf_cut (vo_var 0) vp_none (vp_some ve_int.vo)).ve) (tg_name 3 S.nd (by rfl) (by first | exact Or.inl rfl | exact Or.inr rfl))
  (vss_cons (vs_set 5 S.nd (ve_abs (by rfl) g_abs (ve_toInt (by rfl) g_int (vo_var 3)).vo))
  (vss_one (vs_if (vt_ge (vo_var 5) (ve_pow ve_int.vo ve_int.vo).vo)
  (vss_kill [0, 3] (vss_cons (vs_for (.n 4) .never rfl (vi_rng1 (by rfl) g_range ve_int.vo) (tg_name 4 S.nd (by rfl) (by first | exact Or.inl rfl | exact Or.inr rfl))
  (vss_cons (vs_if (vt_gt (vo_var 5) ve_int.vo)
  (vss_cons (vs_app 2 (ve_mod (vo_var 5) ve_int.vo))
  (vss_one (vs_set 5 S.nd (ve_div (vo_var 5) ve_int.vo))))
  vss_nil)
  (vss_kill [4] vss_nil)))
  (vss_kill [4, 5] vss_nil)))
  (vss_cons (vs_set 6 S.nd (ve_mod (ve_add (ve_add (ve_mul (vo_var 5) ve_int.vo).vo (ve_mul ve_int.vo (ve_len (by rfl) g_len (vo_var 2)).vo).vo).vo ve_int.vo).vo ve_int.vo))
  (vss_kill [0, 3, 5] (vss_cons (vs_for (.n 4) .never rfl (vi_rng1 (by rfl) g_range ve_int.vo) (tg_name 4 S.nd (by rfl) (by first | exact Or.inl rfl | exact Or.inr rfl))
  (vss_cons (vs_set 6 S.nd (ve_mod (ve_add (ve_add (ve_add (ve_mul (vo_var 6) ve_int.vo).vo (ve_div (vo_var 6) ve_int.vo).vo).vo (ve_mul ve_int.vo (vo_var 4)).vo).vo ve_int.vo).vo ve_int.vo))
  (vss_cons (vs_app 2 (ve_mod (ve_div (vo_var 6) ve_int.vo).vo ve_int.vo))
  (vss_kill [4] vss_nil))))
  (vss_kill [4, 6] vss_nil))))))))
  (vss_kill [0, 3, 4, 5, 6] (vss_cons (vs_for (.n 4) .never rfl (vi_rng1 (by rfl) g_range (vo_var 1)) (tg_name 4 S.nd (by rfl) (by first | exact Or.inl rfl | exact Or.inr rfl))
  (vss_cons (vs_if (vt_lt (ve_len (by rfl) g_len (vo_var 2)).vo (vo_var 1))
  (vss_cons (vs_set 7 S.nd ve_int)
  (vss_cons (vs_if (vt_gt (ve_len (by rfl) g_len (vo_var 2)).vo ve_int.vo)
  (vss_one (vs_set 7 S.nd (ve_ix (vo_var 2) (ve_mod (vo_var 4) (ve_len (by rfl) g_len (vo_var 2)).vo).vo)))
  vss_nil)
  (vss_cons (vs_app 2 (ve_mod (ve_add (ve_add (ve_mul (vo_var 7) ve_int.vo).vo (ve_mul ve_int.vo (ve_len (by rfl) g_len (vo_var 2)).vo).vo).vo ve_int.vo).vo ve_int.vo))
  (vss_kill [7] vss_nil))))
  vss_nil)
  (vss_kill [4] vss_nil)))
  (vss_kill [4, 7] (vss_one (vs_retF (vf_cut (vo_var 2) vp_none (vp_some (vo_var 1))))))))))

abbrev s__law_is_number : Stmt := top 24
theorem sc__law_is_number : FnScope ["value"] ["value"] (defScope s__law_is_number) := ⟨rfl, rfl, rfl, by decide +kernel, rfl, by decide +kernel, by decide +kernel⟩
theorem k__law_is_number {P : Program} {w : World} {K : PySem.W.Frag} {mg : Str → Option Value} {base : Heap} {f : Addr} {fd : FuncData} (F : FnP K "_law_is_number" s__law_is_number f fd) (hf : mg "_law_is_number" = some (.ref f)) (g_isinstance : mg "isinstance" = none) (g_int : mg "int" = none) (g_bool : mg "bool" = none) : Cal P w K mg base "_law_is_number" ["value"] 1 (spV K false [true] M__law_is_number) := by
  refine def_cal 0 1 M__law_is_number F hf sc__law_is_number rfl rfl rfl (fun _ _ _ _ _ _ => by1 fun _ => rfl) fun cdv A outer s H E hr => ?_
  have S := sc__law_is_number
  have hu := hr.units
  exact (vss_one (vs_ret (ve_and (ve_isiInt (by rfl) g_isinstance (by rfl) g_int (vo_var 0)) (ve_one (ve_not (ve_isiBool (by rfl) g_isinstance (by rfl) g_bool (vo_var 0)))))))

abbrev s__law_is_tuple : Stmt := top 25
theorem sc__law_is_tuple : FnScope ["value", "width", "item"] ["value", "width"] (defScope s__law_is_tuple) := ⟨rfl, rfl, rfl, by decide +kernel, rfl, by decide +kernel, by decide +kernel⟩
theorem k__law_is_tuple {P : Program} {w : World} {K : PySem.W.Frag} {mg : Str → Option Value} {base : Heap} {f : Addr} {fd : FuncData} (F : FnP K "_law_is_tuple" s__law_is_tuple f fd) (hf : mg "_law_is_tuple" = some (.ref f)) (g_isinstance : mg "isinstance" = none) (g_tuple : mg "tuple" = none) (g_len : mg "len" = none) (c__law_is_number : Cal P w K mg base "_law_is_number" ["value"] 1 (spV K false [true] M__law_is_number)) : Cal P w K mg base "_law_is_tuple" ["value", "width"] 2 (spV K false [false, false] M__law_is_tuple) := by
  refine def_cal 1 3 M__law_is_tuple F hf sc__law_is_tuple rfl rfl rfl (fun _ _ _ _ _ _ => by2 fun _ _ => rfl) fun cdv A outer s H E hr => ?_
  have S := sc__law_is_tuple
  have hu := hr.units
  exact (vss_cons (vs_if (vw_or (vt_not (vt_val (ve_isiTup (by rfl) g_isinstance (by rfl) g_tuple (vo_var 0)).vo)) (vw_or1 (vt_ne hu (ve_len (by rfl) g_len (vo_var 0)).vo (vo_var 1)))).vt
  (vss_one (vs_ret ve_bl))
  vss_nil)
  (vss_kill [1] (vss_cons (vs_for (.n 2) .never rfl (vi_tup (ve_var 0)) (tg_name 2 S.nd (by rfl) (by first | exact Or.inl rfl | exact Or.inr rfl))
  (vss_cons (vs_if (vt_not (vt_val (ve_call c__law_is_number (hr.mono (by decide)) (by rfl) (va_o (vo_var 2) va_nil)).vo))
  (vss_one (vs_ret ve_bl))
  vss_nil)
  (vss_kill [2] vss_nil)))
  (vss_kill [0, 2] (vss_one (vs_ret ve_bl))))))

abbrev s__law_is_pairs : Stmt := top 26
theorem sc__law_is_pairs : FnScope ["value", "item"] ["value"] (defScope s__law_is_pairs) := ⟨rfl, rfl, rfl, by decide +kernel, rfl, by decide +kernel, by decide +kernel⟩
theorem k__law_is_pairs {P : Program} {w : World} {K : PySem.W.Frag} {mg : Str → Option Value} {base : Heap} {f : Addr} {fd : FuncData} (F : FnP K "_law_is_pairs" s__law_is_pairs f fd) (hf : mg "_law_is_pairs" = some (.ref f)) (g_isinstance : mg "isinstance" = none) (g_list : mg "list" = none) (c__law_is_tuple : Cal P w K mg base "_law_is_tuple" ["value", "width"] 2 (spV K false [false, false] M__law_is_tuple)) : Cal P w K mg base "_law_is_pairs" ["value"] 3 (spV K false [true] M__law_is_pairs) := by
  refine def_cal 2 2 M__law_is_pairs F hf sc__law_is_pairs rfl rfl rfl (fun _ _ _ _ _ _ => by1 fun _ => rfl) fun cdv A outer s H E hr => ?_
  have S := sc__law_is_pairs
  have hu := hr.units
  exact (vss_cons (vs_if (vt_not (vt_val (ve_isiList (by rfl) g_isinstance (by rfl) g_list (vo_var 0)).vo))
  (vss_one (vs_ret ve_bl))
  vss_nil)
  (vss_cons (vs_for (.n 1) .never rfl (vi_var 0) (tg_name 1 S.nd (by rfl) (by first | exact Or.inl rfl | exact Or.inr rfl))
  (vss_cons (vs_if (vt_not (vt_val (ve_call c__law_is_tuple (hr.mono (by decide)) (by rfl) (va_e (ve_var 1) (va_e ve_int va_nil))).vo))
  (vss_one (vs_ret ve_bl))
  vss_nil)
  (vss_kill [1] vss_nil)))
  (vss_kill [0, 1] (vss_one (vs_ret ve_bl)))))

abbrev s__law_is_numbers : Stmt := top 27
theorem sc__law_is_numbers : FnScope ["value", "item"] ["value"] (defScope s__law_is_numbers) := ⟨rfl, rfl, rfl, by decide +kernel, rfl, by decide +kernel, by decide +kernel⟩
theorem k__law_is_numbers {P : Program} {w : World} {K : PySem.W.Frag} {mg : Str → Option Value} {base : Heap} {f : Addr} {fd : FuncData} (F : FnP K "_law_is_numbers" s__law_is_numbers f fd) (hf : mg "_law_is_numbers" = some (.ref f)) (g_isinstance : mg "isinstance" = none) (g_list : mg "list" = none) (c__law_is_number : Cal P w K mg base "_law_is_number" ["value"] 1 (spV K false [true] M__law_is_number)) : Cal P w K mg base "_law_is_numbers" ["value"] 2 (spV K false [true] M__law_is_numbers) := by
  refine def_cal 1 2 M__law_is_numbers F hf sc__law_is_numbers rfl rfl rfl (fun _ _ _ _ _ _ => by1 fun _ => rfl) fun cdv A outer s H E hr => ?_
  have S := sc__law_is_numbers
  have hu := hr.units
  exact (vss_cons (vs_if (vt_not (vt_val (ve_isiList (by rfl) g_isinstance (by rfl) g_list (vo_var 0)).vo))
  (vss_one (vs_ret ve_bl))
  vss_nil)
  (vss_cons (vs_for (.n 1) .never rfl (vi_var 0) (tg_name 1 S.nd (by rfl) (by first | exact Or.inl rfl | exact Or.inr rfl))
  (vss_cons (vs_if (vt_not (vt_val (ve_call c__law_is_number (hr.mono (by decide)) (by rfl) (va_o (vo_var 1) va_nil)).vo))
  (vss_one (vs_ret ve_bl))
  vss_nil)
  (vss_kill [1] vss_nil)))
  (vss_kill [0, 1] (vss_one (vs_ret ve_bl)))))

abbrev s__law_same : Stmt := top 28
theorem sc__law_same : FnScope ["told", "due", "k"] ["told", "due"] (defScope s__law_same) := ⟨rfl, rfl, rfl, by decide +kernel, rfl, by decide +kernel, by decide +kernel⟩
theorem kr__law_same {P : Program} {w : World} {K : PySem.W.Frag} {mg : Str → Option Value} {base : Heap} {f : Addr} {fd : FuncData} (F : FnP K "_law_same" s__law_same f fd) (hf : mg "_law_same" = some (.ref f)) (g_isinstance : mg "isinstance" = none) (g_bool : mg "bool" = none) (g_int : mg "int" = none) (g_str : mg "str" = none) (g_tuple : mg "tuple" = none) (g_list : mg "list" = none) (g_len : mg "len" = none) (g_range : mg "range" = none) (c__law_is_number : Cal P w K mg base "_law_is_number" ["value"] 1 (spV K false [true] M__law_is_number)) : ∀ n, Cal P w K mg base "_law_same" ["told", "due"] (n + 2) (spV K false [true, true] (Mr__law_same n))
  | 0 => cal_none F hf rfl _ (fun _ _ _ _ _ _ => by2 fun _ _ => rfl)
  | n + 1 => by
    have c__law_same := kr__law_same F hf g_isinstance g_bool g_int g_str g_tuple g_list g_len g_range c__law_is_number n
    refine def_cal (n + 2) 3 (Mr__law_same (n + 1)) F hf sc__law_same rfl rfl rfl (fun _ _ _ _ _ _ => by2 fun _ _ => rfl) fun cdv A outer s H E hr => ?_
    have S := sc__law_same
    have hu := hr.units
    exact (vss_cons (vs_if (vt_val (ve_isiBool (by rfl) g_isinstance (by rfl) g_bool (vo_var 1)).vo)
  (vss_one (vs_ret (ve_and (ve_isiBool (by rfl) g_isinstance (by rfl) g_bool (vo_var 0)) (ve_one (ve_eq hu (vo_var 0) (vo_var 1))))))
  vss_nil)
  (vss_cons (vs_if (vt_val (ve_isiInt (by rfl) g_isinstance (by rfl) g_int (vo_var 1)).vo)
  (vss_one (vs_ret (ve_and (ve_call c__law_is_number (hr.mono (by omega)) (by rfl) (va_o (vo_var 0) va_nil)) (ve_one (ve_eq hu (vo_var 0) (vo_var 1))))))
  vss_nil)
  (vss_cons (vs_if (vt_val (ve_isiStr (by rfl) g_isinstance (by rfl) g_str (vo_var 1)).vo)
  (vss_one (vs_ret (ve_and (ve_isiStr (by rfl) g_isinstance (by rfl) g_str (vo_var 0)) (ve_one (ve_eq hu (vo_var 0) (vo_var 1))))))
  vss_nil)
  (vss_cons (vs_if (vt_isN (vo_var 1) ve_non.vo)
  (vss_one (vs_ret (ve_isN (vo_var 0) ve_non.vo)))
  vss_nil)
  (vss_cons (vs_if (vw_and (vt_val (ve_isiTup (by rfl) g_isinstance (by rfl) g_tuple (vo_var 1)).vo) (vw_and1 (vt_not (vt_val (ve_isiTup (by rfl) g_isinstance (by rfl) g_tuple (vo_var 0)).vo)))).vt
  (vss_one (vs_ret ve_bl))
  vss_nil)
  (vss_cons (vs_if (vw_and (vt_val (ve_isiList (by rfl) g_isinstance (by rfl) g_list (vo_var 1)).vo) (vw_and1 (vt_not (vt_val (ve_isiList (by rfl) g_isinstance (by rfl) g_list (vo_var 0)).vo)))).vt
  (vss_one (vs_ret ve_bl))
  vss_nil)
  (vss_cons (vs_if (vt_ne hu (ve_len (by rfl) g_len (vo_var 0)).vo (ve_len (by rfl) g_len (vo_var 1)).vo)
  (vss_one (vs_ret ve_bl))
  vss_nil)
  (vss_cons (vs_for (.n 2) .never rfl (vi_rng1 (by rfl) g_range (ve_len (by rfl) g_len (vo_var 1)).vo) (tg_name 2 S.nd (by rfl) (by first | exact Or.inl rfl | exact Or.inr rfl))
  (vss_cons (vs_if (vt_not (vt_val (ve_call c__law_same hr (by rfl) (va_o (ve_ix (vo_var 0) (vo_var 2)).vo (va_o (ve_ix (vo_var 1) (vo_var 2)).vo va_nil))).vo))
  (vss_one (vs_ret ve_bl))
  vss_nil)
  (vss_kill [2] vss_nil)))
  (vss_kill [0, 1, 2] (vss_one (vs_ret ve_bl)))))))))))
theorem k__law_same {P : Program} {w : World} {K : PySem.W.Frag} {mg : Str → Option Value} {base : Heap} {f : Addr} {fd : FuncData} (F : FnP K "_law_same" s__law_same f fd) (hf : mg "_law_same" = some (.ref f)) (g_isinstance : mg "isinstance" = none) (g_bool : mg "bool" = none) (g_int : mg "int" = none) (g_str : mg "str" = none) (g_tuple : mg "tuple" = none) (g_list : mg "list" = none) (g_len : mg "len" = none) (g_range : mg "range" = none) (c__law_is_number : Cal P w K mg base "_law_is_number" ["value"] 1 (spV K false [true] M__law_is_number)) : Cal P w K mg base "_law_same" ["told", "due"] 10 (spV K false [true, true] M__law_same) := kr__law_same F hf g_isinstance g_bool g_int g_str g_tuple g_list g_len g_range c__law_is_number 8

abbrev s__law_gcd : Stmt := top 29
theorem sc__law_gcd : FnScope ["first", "second", "rest"] ["first", "second"] (defScope s__law_gcd) := ⟨rfl, rfl, rfl, by decide +kernel, rfl, by decide +kernel, by decide +kernel⟩
theorem k__law_gcd {P : Program} {w : World} {K : PySem.W.Frag} {mg : Str → Option Value} {base : Heap} {f : Addr} {fd : FuncData} (F : FnP K "_law_gcd" s__law_gcd f fd) (hf : mg "_law_gcd" = some (.ref f)) (g_abs : mg "abs" = none) : Cal P w K mg base "_law_gcd" ["first", "second"] 1 (spV K false [false, false] M__law_gcd) := by
  refine def_cal 0 3 M__law_gcd F hf sc__law_gcd rfl rfl rfl (fun _ _ _ _ _ _ => by2 fun _ _ => rfl) fun cdv A outer s H E hr => ?_
  have S := sc__law_gcd
  have hu := hr.units
  exact (vss_cons (vs_set 0 S.nd (ve_abs (by rfl) g_abs (vo_var 0)))
  (vss_cons (vs_set 1 S.nd (ve_abs (by rfl) g_abs (vo_var 1)))
  (vss_cons (vs_while .never (vt_ne hu (vo_var 1) ve_int.vo)
  (vss_cons (vs_set 2 S.nd (ve_mod (vo_var 0) (vo_var 1)))
  (vss_cons (vs_set 0 S.nd (ve_var 1))
  (vss_cons (vs_set 1 S.nd (ve_var 2))
  (vss_kill [2] vss_nil)))))
  (vss_kill [1, 2] (vss_one (vs_ret (ve_var 0)))))))

abbrev s__law_cross : Stmt := top 30
theorem sc__law_cross : FnScope ["first", "second"] ["first", "second"] (defScope s__law_cross) := ⟨rfl, rfl, rfl, by decide +kernel, rfl, by decide +kernel, by decide +kernel⟩
theorem k__law_cross {P : Program} {w : World} {K : PySem.W.Frag} {mg : Str → Option Value} {base : Heap} {f : Addr} {fd : FuncData} (F : FnP K "_law_cross" s__law_cross f fd) (hf : mg "_law_cross" = some (.ref f)) : Cal P w K mg base "_law_cross" ["first", "second"] 1 (spV K false [false, false] M__law_cross) := by
  refine def_cal 0 2 M__law_cross F hf sc__law_cross rfl rfl rfl (fun _ _ _ _ _ _ => by2 fun _ _ => rfl) fun cdv A outer s H E hr => ?_
  have S := sc__law_cross
  have hu := hr.units
  exact (vss_one (vs_ret (ve_sub (ve_mul (ve_ix (vo_var 0) ve_int.vo).vo (ve_ix (vo_var 1) ve_int.vo).vo).vo (ve_mul (ve_ix (vo_var 0) ve_int.vo).vo (ve_ix (vo_var 1) ve_int.vo).vo).vo)))

abbrev s__law_many : Stmt := top 31
theorem sc__law_many : FnScope ["size", "count", "x", "y"] ["size"] (defScope s__law_many) := ⟨rfl, rfl, rfl, by decide +kernel, rfl, by decide +kernel, by decide +kernel⟩
theorem k__law_many {P : Program} {w : World} {K : PySem.W.Frag} {mg : Str → Option Value} {base : Heap} {f : Addr} {fd : FuncData} (F : FnP K "_law_many" s__law_many f fd) (hf : mg "_law_many" = some (.ref f)) (g_range : mg "range" = none) (c__law_gcd : Cal P w K mg base "_law_gcd" ["first", "second"] 1 (spV K false [false, false] M__law_gcd)) : Cal P w K mg base "_law_many" ["size"] 2 (spV K false [false] M__law_many) := by
  refine def_cal 1 4 M__law_many F hf sc__law_many rfl rfl rfl (fun _ _ _ _ _ _ => by1 fun _ => rfl) fun cdv A outer s H E hr => ?_
  have S := sc__law_many
  have hu := hr.units
  exact (vss_cons (vs_set 1 S.nd ve_int)
  (vss_cons (vs_for (.n 2) .never rfl (vi_rng2 (by rfl) g_range (ve_neg (vo_var 0)).vo (ve_add (vo_var 0) ve_int.vo).vo) (tg_name 2 S.nd (by rfl) (by first | exact Or.inl rfl | exact Or.inr rfl))
  (vss_cons (vs_for (.n 3) .never rfl (vi_rng2 (by rfl) g_range (ve_neg (vo_var 0)).vo (ve_add (vo_var 0) ve_int.vo).vo) (tg_name 3 S.nd (by rfl) (by first | exact Or.inl rfl | exact Or.inr rfl))
  (vss_cons (vs_if (vt_eq hu (ve_call c__law_gcd (hr.mono (by decide)) (by rfl) (va_e (ve_var 2) (va_e (ve_var 3) va_nil))).vo ve_int.vo)
  (vss_one (vs_set 1 S.nd (ve_add (vo_var 1) ve_int.vo)))
  vss_nil)
  (vss_kill [3] vss_nil)))
  (vss_kill [2, 3] vss_nil)))
  (vss_kill [0, 2, 3] (vss_one (vs_ret (ve_var 1))))))

abbrev s__law_sieved : Stmt := top 32
theorem sc__law_sieved : FnScope ["size", "found", "k", "j"] ["size"] (defScope s__law_sieved) := ⟨rfl, rfl, rfl, by decide +kernel, rfl, by decide +kernel, by decide +kernel⟩
theorem k__law_sieved {P : Program} {w : World} {K : PySem.W.Frag} {mg : Str → Option Value} {base : Heap} {f : Addr} {fd : FuncData} (F : FnP K "_law_sieved" s__law_sieved f fd) (hf : mg "_law_sieved" = some (.ref f)) (g_list : mg "list" = none) (g_range : mg "range" = none) (g_sum : mg "sum" = none) : Cal P w K mg base "_law_sieved" ["size"] 1 (spV K false [false] M__law_sieved) := by
  refine def_cal 0 4 M__law_sieved F hf sc__law_sieved rfl rfl rfl (fun _ _ _ _ _ _ => by1 fun _ => rfl) fun cdv A outer s H E hr => ?_
  have S := sc__law_sieved
  have hu := hr.units
  exact (vss_cons (vs_setF 1 S.nd (vf_listRg1 rfl (by rfl) g_list (by rfl) g_range (ve_add (vo_var 0) ve_int.vo).vo))
  (vss_cons (vs_for (.n 2) .never rfl (vi_rng2 (by rfl) g_range ve_int.vo (ve_add (vo_var 0) ve_int.vo).vo) (tg_name 2 S.nd (by rfl) (by first | exact Or.inl rfl | exact Or.inr rfl))
  (vss_one (vs_if (vt_eq hu (ve_ix (vo_var 1) (vo_var 2)).vo (vo_var 2))
  (vss_cons (vs_for (.n 3) .never rfl (vi_rng3 (by rfl) g_range (vo_var 2) (ve_add (vo_var 0) ve_int.vo).vo (vo_var 2)) (tg_name 3 S.nd (by rfl) (by first | exact Or.inl rfl | exact Or.inr rfl))
  (vss_cons (vs_put 1 (vo_var 3) (ve_sub (ve_ix (vo_var 1) (vo_var 3)).vo (ve_div (ve_ix (vo_var 1) (vo_var 3)).vo (vo_var 2)).vo))
  (vss_kill [3] vss_nil)))
  (vss_kill [2, 3] vss_nil))
  (vss_kill [2] vss_nil))))
  (vss_kill [0, 2, 3] (vss_one (vs_ret (ve_mul ve_int.vo (ve_sum rfl (by rfl) g_sum (vo_var 1)).vo))))))

abbrev s__law_goes_round : Stmt := top 33
theorem sc__law_goes_round : FnScope ["fan", "count", "k"] ["fan"] (defScope s__law_goes_round) := ⟨rfl, rfl, rfl, by decide +kernel, rfl, by decide +kernel, by decide +kernel⟩
theorem k__law_goes_round {P : Program} {w : World} {K : PySem.W.Frag} {mg : Str → Option Value} {base : Heap} {f : Addr} {fd : FuncData} (F : FnP K "_law_goes_round" s__law_goes_round f fd) (hf : mg "_law_goes_round" = some (.ref f)) (g_range : mg "range" = none) (g_len : mg "len" = none) (c__law_cross : Cal P w K mg base "_law_cross" ["first", "second"] 1 (spV K false [false, false] M__law_cross)) : Cal P w K mg base "_law_goes_round" ["fan"] 2 (spV K false [true] M__law_goes_round) := by
  refine def_cal 1 3 M__law_goes_round F hf sc__law_goes_round rfl rfl rfl (fun _ _ _ _ _ _ => by1 fun _ => rfl) fun cdv A outer s H E hr => ?_
  have S := sc__law_goes_round
  have hu := hr.units
  exact (vss_cons (vs_set 1 S.nd ve_int)
  (vss_cons (vs_for (.n 2) .never rfl (vi_rng1 (by rfl) g_range (ve_len (by rfl) g_len (vo_var 0)).vo) (tg_name 2 S.nd (by rfl) (by first | exact Or.inl rfl | exact Or.inr rfl))
  (vss_cons (vs_if (vt_ne hu (ve_call c__law_cross (hr.mono (by decide)) (by rfl) (va_e (ve_ix (vo_var 0) (ve_sub (vo_var 2) ve_int.vo).vo) (va_e (ve_ix (vo_var 0) (vo_var 2)) va_nil))).vo ve_int.vo)
  (vss_one (vs_ret ve_bl))
  vss_nil)
  (vss_cons (vs_if (vw_and (vt_lt (ve_ix (ve_ix (vo_var 0) (ve_sub (vo_var 2) ve_int.vo).vo).vo ve_int.vo).vo ve_int.vo) (vw_and1 (vt_ge (ve_ix (ve_ix (vo_var 0) (vo_var 2)).vo ve_int.vo).vo ve_int.vo))).vt
  (vss_one (vs_set 1 S.nd (ve_add (vo_var 1) ve_int.vo)))
  vss_nil)
  (vss_kill [2] vss_nil))))
  (vss_kill [0, 2] (vss_one (vs_ret (ve_eq hu (vo_var 1) ve_int.vo))))))

abbrev s__law_in_part : Stmt := top 34
theorem sc__law_in_part : FnScope ["vector", "part", "x", "y", "k"] ["vector", "part"] (defScope s__law_in_part) := ⟨rfl, rfl, rfl, by decide +kernel, rfl, by decide +kernel, by decide +kernel⟩
theorem k__law_in_part {P : Program} {w : World} {K : PySem.W.Frag} {mg : Str → Option Value} {base : Heap} {f : Addr} {fd : FuncData} (F : FnP K "_law_in_part" s__law_in_part f fd) (hf : mg "_law_in_part" = some (.ref f)) (g_range : mg "range" = none) : Cal P w K mg base "_law_in_part" ["vector", "part"] 1 (spV K false [false, false] M__law_in_part) := by
  refine def_cal 0 5 M__law_in_part F hf sc__law_in_part rfl rfl rfl (fun _ _ _ _ _ _ => by2 fun _ _ => rfl) fun cdv A outer s H E hr => ?_
  have S := sc__law_in_part
  have hu := hr.units
  exact (vss_cons (vs_asg (.t [2, 3]) (ve_var 0) (tg_tup rfl (tgs_cons 2 S.nd (tgs_cons 3 S.nd tgs_nil))))
  (vss_kill [0] (vss_cons (vs_for (.n 4) .never rfl (vi_rng1 (by rfl) g_range (ve_div (vo_var 1) ve_int.vo).vo) (tg_name 4 S.nd (by rfl) (by first | exact Or.inl rfl | exact Or.inr rfl))
  (vss_cons (vs_par 2 3 rfl S.nd (by decide) (va_e (ve_var 3) (va_e (ve_neg (vo_var 2)) va_nil)))
  (vss_kill [4] vss_nil)))
  (vss_kill [4] (vss_cons (vs_if (vt_eq hu (ve_mod (vo_var 1) ve_int.vo).vo ve_int.vo)
  (vss_one (vs_par 2 3 rfl S.nd (by decide) (va_e (ve_var 3) (va_e (ve_var 2) va_nil))))
  vss_nil)
  (vss_one (vs_ret (ve_and (ve_le ve_int.vo (vo_var 3)) (ve_one (ve_le (vo_var 3) (vo_var 2)))))))))))

abbrev s__law_numbered : Stmt := top 35
theorem sc__law_numbered : FnScope ["fan", "passed", "told", "k", "one", "two", "sizes", "part", "vector"] ["fan"] (defScope s__law_numbered) := ⟨rfl, rfl, rfl, by decide +kernel, rfl, by decide +kernel, by decide +kernel⟩
theorem k__law_numbered {P : Program} {w : World} {K : PySem.W.Frag} {mg : Str → Option Value} {base : Heap} {f : Addr} {fd : FuncData} (F : FnP K "_law_numbered" s__law_numbered f fd) (hf : mg "_law_numbered" = some (.ref f)) (g_list : mg "list" = none) (g_len : mg "len" = none) (g_range : mg "range" = none) (g_max : mg "max" = none) (g_abs : mg "abs" = none) (c_is_fan : Cal P w K mg base "is_fan" ["value"] 4 (spV K false [true] M_is_fan)) (c_is_smooth : Cal P w K mg base "is_smooth" ["fan"] 3 (spV K false [true] M_is_smooth)) (c_fan_numbers : Cal P w K mg base "fan_numbers" ["fan"] 2 (spV K true [true] M_fan_numbers)) (c__law_is_numbers : Cal P w K mg base "_law_is_numbers" ["value"] 2 (spV K false [true] M__law_is_numbers)) (c__law_in_part : Cal P w K mg base "_law_in_part" ["vector", "part"] 1 (spV K false [false, false] M__law_in_part)) : Cal P w K mg base "_law_numbered" ["fan"] 5 (spV K false [true] M__law_numbered) := by
  refine def_cal 4 9 M__law_numbered F hf sc__law_numbered rfl rfl rfl (fun _ _ _ _ _ _ => by1 fun _ => rfl) fun cdv A outer s H E hr => ?_
  have S := sc__law_numbered
  have hu := hr.units
  exact (vss_cons (vs_set 1 S.nd (vf_toList (by rfl) g_list (vo_var 0)).ve)
  (vss_cons (vs_if (vw_or (vt_nisB (ve_call c_is_fan (hr.mono (by decide)) (by rfl) (va_o (vo_var 1) va_nil)).vo ve_bl.vo) (vw_or1 (vt_nisB (ve_call c_is_smooth (hr.mono (by decide)) (by rfl) (va_o (vo_var 1) va_nil)).vo ve_bl.vo))).vt
  (vss_one (vs_ret ve_bl))
  vss_nil)
  (vss_cons (vs_set 2 S.nd (vf_call c_fan_numbers (hr.mono (by decide)) (by rfl) (va_o (vo_var 1) va_nil)).ve)
  (vss_cons (vs_if (vw_or (vt_ne hu (vo_var 1) (vo_var 0)) (vw_or (vt_not (vt_val (ve_call c__law_is_numbers (hr.mono (by decide)) (by rfl) (va_o (vo_var 2) va_nil)).vo)) (vw_or1 (vt_ne hu (ve_len (by rfl) g_len (vo_var 2)).vo (ve_len (by rfl) g_len (vo_var 0)).vo)))).vt
  (vss_one (vs_ret ve_bl))
  vss_nil)
  (vss_kill [1] (vss_cons (vs_for (.n 3) .never rfl (vi_rng1 (by rfl) g_range (ve_len (by rfl) g_len (vo_var 0)).vo) (tg_name 3 S.nd (by rfl) (by first | exact Or.inl rfl | exact Or.inr rfl))
  (vss_cons (vs_set 4 S.nd (ve_ix (vo_var 0) (ve_sub (vo_var 3) ve_int.vo).vo))
  (vss_cons (vs_set 5 S.nd (ve_ix (vo_var 0) (ve_mod (ve_add (vo_var 3) ve_int.vo).vo (ve_len (by rfl) g_len (vo_var 0)).vo).vo))
  (vss_cons (vs_if (vt_ne hu (ve_tup (va_e (ve_add (ve_ix (vo_var 4) ve_int.vo).vo (ve_ix (vo_var 5) ve_int.vo).vo) (va_e (ve_add (ve_ix (vo_var 4) ve_int.vo).vo (ve_ix (vo_var 5) ve_int.vo).vo) va_nil))).vo (ve_tup (va_e (ve_mul (ve_ix (vo_var 2) (vo_var 3)).vo (ve_ix (ve_ix (vo_var 0) (vo_var 3)).vo ve_int.vo).vo) (va_e (ve_mul (ve_ix (vo_var 2) (vo_var 3)).vo (ve_ix (ve_ix (vo_var 0) (vo_var 3)).vo ve_int.vo).vo) va_nil))).vo)
  (vss_one (vs_ret ve_bl))
  vss_nil)
  (vss_cons (vs_setLc 6 [("vector", 8)] (.n 8) rfl S.nd (vic_list (vf_lst (va_e (ve_var 4) (va_e (ve_ix (vo_var 0) (vo_var 3)) (va_e (ve_var 5) va_nil)))).vo) (blkOk_by (N := ["fan", "passed", "told", "k", "one", "two", "sizes", "part", "vector"]) (sc := defScope s__law_numbered) (by decide +kernel)) (fun _ _ _ _ _ => (tg_name 8 S.nd (by rfl) (by first | exact Or.inl rfl | exact Or.inr rfl))) (fun _ _ _ _ _ => vts_nil) (fun _ _ _ _ _ => (ve_max2 rfl (by rfl) g_max (ve_abs (by rfl) g_abs (ve_ix (vo_var 8) ve_int.vo).vo).vo (ve_abs (by rfl) g_abs (ve_ix (vo_var 8) ve_int.vo).vo).vo)) (sw_true rfl rfl rfl (by decide +kernel)))
  (vss_fz 6 (vss_cons (vs_for (.n 7) .never rfl (vi_rng1 (by rfl) g_range ve_int.vo) (tg_name 7 S.nd (by rfl) (by first | exact Or.inl rfl | exact Or.inr rfl))
  (vss_cons (vs_if (vw_and (vt_val (ve_call c__law_in_part (hr.mono (by decide)) (by rfl) (va_e (ve_var 4) (va_e (ve_var 7) va_nil))).vo) (vw_and (vt_val (ve_call c__law_in_part (hr.mono (by decide)) (by rfl) (va_e (ve_ix (vo_var 0) (vo_var 3)) (va_e (ve_var 7) va_nil))).vo) (vw_and1 (vt_val (ve_call c__law_in_part (hr.mono (by decide)) (by rfl) (va_e (ve_var 5) (va_e (ve_var 7) va_nil))).vo)))).vt
  (vss_one (vs_if (vt_ne hu (ve_mul (ve_ix (vo_var 2) (vo_var 3)).vo (ve_ix (vo_var 6) ve_int.vo).vo).vo (ve_add (ve_ix (vo_var 6) ve_int.vo).vo (ve_ix (vo_var 6) ve_int.vo).vo).vo)
  (vss_one (vs_ret ve_bl))
  vss_nil))
  vss_nil)
  (vss_kill [7] vss_nil)))
  (vss_kill [3, 4, 5, 6, 7] vss_nil))))))))
  (vss_kill [0, 2, 3, 4, 5, 6, 7] (vss_one (vs_ret ve_bl)))))))))

abbrev s__law_fanned : Stmt := top 36
theorem sc__law_fanned : FnScope ["size", "fan", "kept", "x", "y"] ["size"] (defScope s__law_fanned) := ⟨rfl, rfl, rfl, by decide +kernel, rfl, by decide +kernel, by decide +kernel⟩
theorem k__law_fanned {P : Program} {w : World} {K : PySem.W.Frag} {mg : Str → Option Value} {base : Heap} {f : Addr} {fd : FuncData} (F : FnP K "_law_fanned" s__law_fanned f fd) (hf : mg "_law_fanned" = some (.ref f)) (g_len : mg "len" = none) (g_max : mg "max" = none) (g_abs : mg "abs" = none) (g_list : mg "list" = none) (c_farey_fan : Cal P w K mg base "farey_fan" ["size"] 3 (spV K true [false] M_farey_fan)) (c__law_is_pairs : Cal P w K mg base "_law_is_pairs" ["value"] 3 (spV K false [true] M__law_is_pairs)) (c__law_many : Cal P w K mg base "_law_many" ["size"] 2 (spV K false [false] M__law_many)) (c__law_goes_round : Cal P w K mg base "_law_goes_round" ["fan"] 2 (spV K false [true] M__law_goes_round)) (c__law_same : Cal P w K mg base "_law_same" ["told", "due"] 10 (spV K false [true, true] M__law_same)) (c_farey_count : Cal P w K mg base "farey_count" ["size"] 3 (spV K false [false] M_farey_count)) (c__law_numbered : Cal P w K mg base "_law_numbered" ["fan"] 5 (spV K false [true] M__law_numbered)) : Cal P w K mg base "_law_fanned" ["size"] 11 (spV K false [false] M__law_fanned) := by
  refine def_cal 10 5 M__law_fanned F hf sc__law_fanned rfl rfl rfl (fun _ _ _ _ _ _ => by1 fun _ => rfl) fun cdv A outer s H E hr => ?_
  have S := sc__law_fanned
  have hu := hr.units
  exact (vss_cons (vs_setF 1 S.nd (vf_call c_farey_fan (hr.mono (by decide)) (by rfl) (va_e (ve_var 0) va_nil)))
  (vss_cons (vs_if (vw_or (vt_not (vt_val (ve_call c__law_is_pairs (hr.mono (by decide)) (by rfl) (va_o (vo_var 1) va_nil)).vo)) (vw_or (vt_ne hu (ve_len (by rfl) g_len (vo_var 1)).vo (ve_call c__law_many (hr.mono (by decide)) (by rfl) (va_e (ve_var 0) va_nil)).vo) (vw_or (vt_ne hu (ve_ix (vo_var 1) ve_int.vo).vo (ve_tup (va_e ve_int (va_e ve_int va_nil))).vo) (vw_or1 (vt_not (vt_val (ve_call c__law_goes_round (hr.mono (by decide)) (by rfl) (va_o (vo_var 1) va_nil)).vo)))))).vt
  (vss_one (vs_ret ve_bl))
  vss_nil)
  (vss_cons (vs_if (vw_or (vt_ne hu (ve_max rfl (by rfl) g_max (vf_lc [("x", 3), ("y", 4)] (.t [3, 4]) rfl S.nd (vic_list (vo_var 1)) (blkOk_by (N := ["size", "fan", "kept", "x", "y"]) (sc := defScope s__law_fanned) (by decide +kernel)) (fun _ _ _ _ _ => (tg_tup rfl (tgs_cons 3 S.nd (tgs_cons 4 S.nd tgs_nil)))) (fun _ _ _ _ _ => vts_nil) (fun _ _ _ _ _ => (ve_max2 rfl (by rfl) g_max (ve_abs (by rfl) g_abs (vo_var 3)).vo (ve_abs (by rfl) g_abs (vo_var 4)).vo))).vo).vo (vo_var 0)) (vw_or1 (vt_not (vt_val (ve_call c__law_same (hr.mono (by decide)) (by rfl) (va_o (ve_call c_farey_count (hr.mono (by decide)) (by rfl) (va_e (ve_var 0) va_nil)).vo (va_o (ve_len (by rfl) g_len (vo_var 1)).vo va_nil))).vo)))).vt
  (vss_one (vs_ret ve_bl))
  vss_nil)
  (vss_cons (vs_if (vw_and (vt_le (vo_var 0) ve_int.vo) (vw_and1 (vt_not (vt_val (ve_call c__law_numbered (hr.mono (by decide)) (by rfl) (va_o (vo_var 1) va_nil)).vo)))).vt
  (vss_one (vs_ret ve_bl))
  vss_nil)
  (vss_cons (vs_set 2 S.nd (vf_toList (by rfl) g_list (vo_var 1)).ve)
  (vss_cons (vs_app 1 (ve_tup (va_e ve_int (va_e ve_int va_nil))))
  (vss_cons (vs_put 1 ve_int.vo (ve_tup (va_e ve_int (va_e ve_int va_nil))))
  (vss_one (vs_ret (ve_call c__law_same (hr.mono (by decide)) (by rfl) (va_o (vf_call c_farey_fan (hr.mono (by decide)) (by rfl) (va_e (ve_var 0) va_nil)).vo (va_o (vo_var 2) va_nil))))))))))))

abbrev s_law : Stmt := top 37
theorem sc_law : FnScope ["script", "draws", "size", "other", "number"] ["script"] (defScope s_law) := ⟨rfl, rfl, rfl, by decide +kernel, rfl, by decide +kernel, by decide +kernel⟩
theorem k_law {P : Program} {w : World} {K : PySem.W.Frag} {mg : Str → Option Value} {base : Heap} {f : Addr} {fd : FuncData} (F : FnP K "law" s_law f fd) (c__law_draws : Cal P w K mg base "_law_draws" ["script", "many"] 1 (spV K true [true, false] M__law_draws)) (c__law_fanned : Cal P w K mg base "_law_fanned" ["size"] 11 (spV K false [false] M__law_fanned)) (c__law_same : Cal P w K mg base "_law_same" ["told", "due"] 10 (spV K false [true, true] M__law_same)) (c__law_sieved : Cal P w K mg base "_law_sieved" ["size"] 1 (spV K false [false] M__law_sieved)) (c_farey_count : Cal P w K mg base "farey_count" ["size"] 3 (spV K false [false] M_farey_count)) : FnOk P w K mg base CX0 12 f fd ["script"] (spV K false [true] M_law) := by
  refine def_fn 11 5 M_law F sc_law rfl rfl rfl fun cdv A outer s H E hr => ?_
  have S := sc_law
  have hu := hr.units
  exact (vss_cons (vs_set 1 S.nd (vf_call c__law_draws (hr.mono (by decide)) (by rfl) (va_o (vo_var 0) (va_e ve_int va_nil))).ve)
  (vss_cons (vs_set 2 S.nd (ve_add ve_int.vo (ve_mod (ve_ix (vo_var 1) ve_int.vo).vo ve_int.vo).vo))
  (vss_cons (vs_set 3 S.nd (ve_add ve_int.vo (ve_mod (ve_ix (vo_var 1) ve_int.vo).vo ve_int.vo).vo))
  (vss_cons (vs_if (vt_eq hu (ve_mod (ve_ix (vo_var 1) ve_int.vo).vo ve_int.vo).vo ve_int.vo)
  (vss_one (vs_set 3 S.nd (ve_add ve_int.vo (ve_mod (ve_ix (vo_var 1) ve_int.vo).vo (ve_pow ve_int.vo ve_int.vo).vo).vo)))
  vss_nil)
  (vss_cons (vs_if (vw_or (vt_not (vt_val (ve_call c__law_fanned (hr.mono (by decide)) (by rfl) (va_e (ve_var 2) va_nil)).vo)) (vw_or1 (vt_not (vt_val (ve_call c__law_fanned (hr.mono (by decide)) (by rfl) (va_e (ve_add ve_int.vo (ve_mod (ve_ix (vo_var 1) ve_int.vo).vo ve_int.vo).vo) va_nil)).vo)))).vt
  (vss_one (vs_ret ve_bl))
  vss_nil)
  (vss_kill [0] (vss_cons (vs_for (.n 4) .never rfl (vi_list (vf_lst (va_e (ve_var 3) (va_e (ve_var 2) (va_e ve_int (va_e ve_int (va_e ve_int va_nil)))))).ve) (tg_name 4 S.nd (by rfl) (by first | exact Or.inl rfl | exact Or.inr rfl))
  (vss_cons (vs_if (vt_not (vt_val (ve_call c__law_same (hr.mono (by decide)) (by rfl) (va_o (ve_call c_farey_count (hr.mono (by decide)) (by rfl) (va_e (ve_var 4) va_nil)).vo (va_o (ve_call c__law_sieved (hr.mono (by decide)) (by rfl) (va_e (ve_var 4) va_nil)).vo va_nil))).vo))
  (vss_one (vs_ret ve_bl))
  vss_nil)
  (vss_kill [4] vss_nil)))
  (vss_kill [2, 3, 4] (vss_one (vs_ret (ve_call c__law_fanned (hr.mono (by decide)) (by rfl) (va_e (ve_add ve_int.vo (ve_mod (ve_ix (vo_var 1) ve_int.vo).vo ve_int.vo).vo) va_nil))))))))))))

end VL

set_option Elab.async false
set_option linter.all false
set_option maxRecDepth 100000
set_option maxHeartbeats 4000000
set_option exponentiation.threshold 5000
namespace VL
open PySem PySem.Spec PyProof.Rows L2
/-! ### the two defs that hold a dict -/
abbrev s_longer_vectors : Stmt := top 5
abbrev s_farey_count : Stmt := top 6
theorem sc_longer_vectors : FnScope ["value", "counts", "total", "length", "part", "last"] ["value", "counts"] (defScope s_longer_vectors) := ⟨rfl, rfl, rfl, by decide +kernel, rfl, by decide +kernel, by decide +kernel⟩
theorem sc_farey_count : FnScope ["size", "counts", "value"] ["size"] (defScope s_farey_count) := ⟨rfl, rfl, rfl, by decide +kernel, rfl, by decide +kernel, by decide +kernel⟩
/-- the dict knows v's lesser quotients -/
def Knows (kvs : List (Key × V)) (v : Nat) : Prop := ∀ l, 2 ≤ l → l ≤ v → valV kvs (Sum.inl ((v / l : Nat) : Int) : Key) = some (.int (8 * Tot.Tot (v / l) : Nat))
def spLV : Sp := fun vs H Q _ => ∃ (v : Nat) (d : Addr) (kvs : List (Key × V)), vs = [.int v, .ref d] ∧ H d = some (.dK kvs) ∧ v ≤ 10000 ∧ 1 ≤ v ∧ Knows kvs v ∧ Q (.int (S2 v (v + 1) : Nat)) H
theorem ok_longer {P : Program} {w : World} {K : PySem.W.Frag} {mg : Str → Option Value} {base : Heap} {f : Addr} {fd : FuncData} (F : FnP K "longer_vectors" s_longer_vectors f fd) : FnOk P w K mg base CX0 1 f fd ["value", "counts"] spLV := by
  refine F.ok sc_longer_vectors (fun vs H Q E h => ?_) (fun cdv A outer s H vs Q E hr h => ?_)
  · obtain ⟨v, d, kvs, rfl, _⟩ := h
    rfl
  · obtain ⟨v, d, kvs, rfl, hd, hv, hv1, kn, k⟩ := h
    have S := sc_longer_vectors
    have hu := hu_of hr
    refine ⟨_, PSs.nox (pss_cons (ps_set (i := 2) S.nd rfl (Or.inl rfl) pe_int) (pss_cons (ps_set (i := 3) S.nd rfl (Or.inl rfl) pe_int)
      (pss_cons (ps_while PassesOwn.never (pt_cmpR op_le (pv 3) (pv 0) (nomark _))
        (pss_cons (ps_set (i := 4) S.nd rfl (Or.inl rfl) (pe_op op_fdiv (pv 0) (pv 3)))
        (pss_cons (ps_set (i := 5) S.nd rfl (Or.inl rfl) (pe_op op_fdiv (pv 0) (pv 4)))
        (pss_cons (ps_set (i := 2) S.nd rfl (Or.inl rfl) (pe_op op_add (pv 2) (pe_op op_mul (pe_op op_add (pe_op op_sub (pv 5) (pv 3)) pe_int) (pe_dget hu (pv 1) (pv 4) (fun _ _ => rfl)))))
        (pss_one (ps_set (i := 3) S.nd rfl (Or.inl rfl) (pe_op op_add (pv 5) pe_int)))))))
      (pss_one (ps_ret (pv 2)))))), ?_⟩
    refine ⟨fun m σ H2 => ∃ (len : Nat) (p l : Option V), σ = [some (.int v), some (.ref d), some (.int (S2 v len : Nat)), some (.int (len : Nat)), p, l] ∧ H2 = H ∧ 2 ≤ len ∧ len ≤ v + 1 ∧ m = v + 1 - len, ⟨_, 2, none, none, rfl, rfl, Nat.le_refl _, by omega, rfl⟩, ?_⟩
    rintro m σ H2 ⟨len, p, l, rfl, rfl, h2, h3, hm⟩
    refine ⟨_, rfl, _, rfl, _, _, rfl, rfl, _, rfl, ?_⟩
    refine ite2 (fun hc => ?_) (fun hc => ?_)
    · have hl : len ≤ v := by have := of_decide_eq_true hc; omega
      obtain ⟨b1, b2, b3⟩ := s2_step v len h2 hl
      have q1 : 1 ≤ v / len := (Nat.one_le_div_iff (by omega)).mpr hl
      have q2 : v / len ≤ v := Nat.div_le_self _ _
      have kv := kn len h2 hl
      refine ⟨fun σ' H' => ∃ m', m' < m ∧ ∃ (len : Nat) (p l : Option V), σ' = [some (.int v), some (.ref d), some (.int (S2 v len : Nat)), some (.int (len : Nat)), p, l] ∧ H' = H2 ∧ 2 ≤ len ∧ len ≤ v + 1 ∧ m' = v + 1 - len, fun σ' H' h => h, ?_⟩
      refine ⟨_, rfl, _, rfl, _, _, rfl, rfl, ⟨by omega, by omega⟩, ?_⟩
      refine ⟨_, rfl, _, rfl, _, ((v / len : Nat) : Int), rfl, rfl, ⟨by omega, by omega⟩, ?_⟩
      refine ⟨_, rfl, _, rfl, _, rfl, _, _, rfl, rfl, _, _, rfl, rfl, _, rfl, _, rfl, d, V.int ((8 * Tot.Tot (v / len) : Nat) : Int), rfl, ?_, _, _, rfl, rfl, .inl ⟨?_, ?_⟩, _, _, rfl, rfl, ?_⟩
      · have g := DGet.k (k := (Sum.inl ((v / len : Nat) : Int) : Key)) hd
        rw [kv] at g
        exact g
      · show -(2 ^ 64 : Int) < ((v / (v / len) : Nat) : Int) - (len : Int) + 1
        omega
      · show ((v / (v / len) : Nat) : Int) - (len : Int) + 1 < (2 ^ 64 : Int)
        omega
      · refine ⟨_, rfl, _, _, rfl, rfl, ?_⟩
        refine ⟨v + 1 - (v / (v / len) + 1), by omega, v / (v / len) + 1, some (V.int ((v / len : Nat) : Int)), some (V.int ((v / (v / len) : Nat) : Int)), ?_, rfl, by omega, by omega, rfl⟩
        have e1 : ((S2 v len : Nat) : Int) + ((((v / (v / len) : Nat) : Int) - (len : Int) + 1) * ((8 * Tot.Tot (v / len) : Nat) : Int)) = ((S2 v (v / (v / len) + 1) : Nat) : Int) := by
          rw [b3]
          have e2 : (((v / (v / len) : Nat) : Int) - (len : Int) + 1) = ((v / (v / len) + 1 - len : Nat) : Int) := by omega
          rw [e2, Int.natCast_add, Int.natCast_mul]
          rfl
        show [some (V.int v), some (V.ref d), some (V.int (((S2 v len : Nat) : Int) + ((((v / (v / len) : Nat) : Int) - (len : Int) + 1) * ((8 * Tot.Tot (v / len) : Nat) : Int)))), some (V.int (((v / (v / len) : Nat) : Int) + 1)), some (V.int ((v / len : Nat) : Int)), some (V.int ((v / (v / len) : Nat) : Int))] = _
        rw [e1]
        rfl
    · have hl : len = v + 1 := by
        have : ¬ ((len : Int) ≤ (v : Int)) := fun z => hc (decide_eq_true z)
        omega
      subst hl
      exact ⟨_, rfl, k⟩
theorem k_farey_count {P : Program} {w : World} {K : PySem.W.Frag} {mg : Str → Option Value} {base : Heap} {f f2 : Addr} {fd fd2 : FuncData} (F : FnP K "farey_count" s_farey_count f fd) (hf : mg "farey_count" = some (.ref f))
    (F2 : FnP K "longer_vectors" s_longer_vectors f2 fd2) (hf2 : mg "longer_vectors" = some (.ref f2)) (c : Cal P w K mg base "shares_with" ["value"] 1 (spV K true [false] M_shares_with)) : Cal P w K mg base "farey_count" ["size"] 3 (spV K false [false] M_farey_count) := by
  have G2 : FnOk P w K mg base CX0 1 f2 fd2 ["value", "counts"] spLV := ok_longer F2
  have b2 : Binds K fd2 ["value", "counts"] [] := F2.bindsN fun _ _ _ _ _ _ => by2 fun _ _ => rfl
  obtain ⟨f1, fd1, G1, m1, kp1, b1⟩ := c.ex
  refine cal_mk F (FnOk.mono (j := 2) ?_ (by decide)) hf fun _ _ _ _ _ _ => by1 fun _ => rfl
  refine F.ok sc_farey_count (fun vs H Q E h => ?_) (fun cdv A outer s H vs Q E hr h => ?_)
  · obtain ⟨G, ds, d, _, a, _⟩ := h
    rw [a.len1]
    rfl
  · obtain ⟨G, ds, dz, sg, a, eM, k⟩ := h
    have S := sc_farey_count
    have hu := hu_of hr
    match ds, a with
    | [x], .kept r .nil =>
      unfold M_farey_count at eM
      split at eM
      · rename_i n e0
        cases e0
        split at eM
        · rename_i hn
          cases eM
          cases r
          obtain ⟨n, rfl⟩ : ∃ m : Nat, n = (m : Int) := ⟨n.toNat, by omega⟩
          obtain ⟨L, q, sh⟩ := shares_eq n (by omega)
          refine ⟨_, PSs.nox (pss_cons (ps_set (i := 1) S.nd rfl (Or.inl rfl) pe_dnewK)
            (pss_cons (ps_for PassesOwn.never rfl (pi_list (pe_call G1 hr rfl m1 kp1 b1 .nil pass0 (pa_cons (pv 0) pa_nil))) (pg_name (i := 2) S.nd rfl (Or.inl rfl))
              (pss_one (ps_dput hu (pv 1) (pv 2) (pe_op op_sub (pe_op op_add (pe_op op_mul (pe_op op_mul pe_int (pv 2)) (pv 2)) (pe_op op_mul pe_int (pv 2))) (pe_call G2 hr rfl hf2 F2.kp b2 .nil pass0 (pa_cons (pv 2) (pa_cons (pv 1) pa_nil)))) rfl)))
            (pss_one (ps_ret (pe_dget hu (pv 1) (pv 0) (fun _ _ => rfl)))))), ?_⟩
          intro d nd
          have sd : Same H (upd H d (.dK [])) := upd_same_of _ nd
          refine ⟨_, rfl, G, [.int n], _, sg.trans sd, .kept (.int _) .nil, sh, fun v G' H2 t r => ?_⟩
          unfold Res at r
          rw [if_pos rfl] at r
          obtain ⟨xs, ex, l, vs, ev, hl, gl, bl, al⟩ := r
          cases ex
          have em : L.map natD = (L.map fun (x : Nat) => (x : Int)).map PyData.int := by rw [List.map_map]; rfl
          rw [em] at al
          have ea := dpAll_of_ints al
          have dl : l ≠ d := by
            rintro rfl
            rw [upd_same] at bl
            cases bl
          refine ⟨l, ev, ⟨_, SqL.of hl⟩, for_list (K := K) (a := l) (xs := vs) (fun i σ H3 => ∃ (kvs : List (Key × V)) (v : Option V), σ = [some (.int n), some (.ref d), v] ∧ H3 d = some (.dK kvs) ∧ H3 l = some (.lst vs) ∧ Same H H3 ∧ kvs.length ≤ i ∧ ∀ (j x : Nat), j < i → L[j]? = some x → valV kvs (Sum.inl (x : Int) : Key) = some (.int (8 * Tot.Tot x : Nat)))
            ⟨[], none, rfl, t.hh _ _ upd_same, hl, sd.trans t.hh, Nat.le_refl _, fun j x h => absurd h (by omega)⟩ (fun i σ H3 _ ⟨_, _, _, _, h, _⟩ => SqL.of h) ?_ ?_⟩
          · rintro i y σ H3 hi ⟨kvs, v0, rfl, hd, hl3, s3, hk, hkn⟩
            obtain ⟨x, hx, rfl⟩ : ∃ x : Nat, L[i]? = some x ∧ y = V.int x := by
              rw [ea, List.map_map, List.getElem?_map] at hi
              cases e : L[i]? with
              | none => rw [e] at hi; cases hi
              | some x => rw [e] at hi; cases hi; exact ⟨x, rfl, rfl⟩
            have hiL : i < L.length := (List.getElem?_eq_some_iff.mp hx).1
            obtain ⟨m, m1', m2, mx⟩ := q.quo x (List.mem_of_getElem? hx)
            have x1 : 1 ≤ x := by rw [mx]; exact (Nat.one_le_div_iff (by omega)).mpr m2
            have x2 : x ≤ n := by rw [mx]; exact Nat.div_le_self _ _
            have kn : Knows kvs x := by
              intro z z1 z2
              have e1 : x / z = n / (m * z) := by rw [mx, Nat.div_div_eq_div_mul]
              have z3 : 1 ≤ x / z := (Nat.one_le_div_iff (by omega)).mpr z2
              have z4 : m * z ≤ n := by
                have : 0 < m * z := Nat.mul_pos (by omega) (by omega)
                rw [e1] at z3
                exact (Nat.one_le_div_iff this).mp z3
              have hm := q.all (m * z) (Nat.mul_pos (by omega) (by omega)) z4
              rw [← e1] at hm
              obtain ⟨j, hj⟩ := List.getElem?_of_mem hm
              have hjL : j < L.length := (List.getElem?_eq_some_iff.mp hj).1
              have z5 : x / z < x := Nat.div_lt_self (by omega) (by omega)
              refine hkn j (x / z) ?_ hj
              apply Nat.lt_of_not_le
              intro hle
              have ej : L[j] = x / z := (List.getElem?_eq_some_iff.mp hj).2
              have ei : L[i] = x := (List.getElem?_eq_some_iff.mp hx).2
              rcases Nat.lt_or_ge i j with hlt | hge
              · have := (List.pairwise_iff_getElem.mp q.asc) i j hiL hjL hlt
                omega
              · have : i = j := by omega
                subst this
                omega
            have hz := q.len
            refine ⟨_, rfl, _, _, rfl, rfl, .inl ⟨by decide, by decide⟩, _, rfl, _, _, rfl, rfl, .inl ⟨by omega, by omega⟩, _, rfl, _, _, rfl, rfl, .inl ⟨by decide, by decide⟩, _, _, rfl, rfl, _, rfl, _, rfl, x, d, kvs, rfl, hd, by omega, x1, kn, _, _, rfl, rfl, _, rfl, _, rfl, d, _, rfl, DPut.k (k := (Sum.inl (x : Int) : Key)) hd (by show kvs.length < sizeD; rw [sizeD_eq]; omega), ?_⟩
            refine ⟨_, some (.int x), rfl, upd_same, by rw [upd_ne dl]; exact hl3, fun b o e => ?_, Nat.le_trans (length_putK _ _ _) (by omega), fun j z hj hzj => ?_⟩
            · rw [upd_ne]
              · exact s3 _ _ e
              · rintro rfl
                rw [nd] at e
                cases e
            · rw [valV_put]
              have s2 := s2_all x x1
              have e4 : (4 : Int) * (x : Int) * (x : Int) + 4 * (x : Int) - ((S2 x (x + 1) : Nat) : Int) = ((8 * Tot.Tot x : Nat) : Int) := by
                have e5 : ((4 * x * x + 4 * x : Nat) : Int) = 4 * (x : Int) * (x : Int) + 4 * (x : Int) := by
                  rw [Int.natCast_add, Int.natCast_mul, Int.natCast_mul]
                  rfl
                omega
              by_cases c : z = x
              · subst c
                rw [if_pos rfl]
                show some (V.int (4 * (z : Int) * (z : Int) + 4 * (z : Int) - ((S2 z (z + 1) : Nat) : Int))) = _
                rw [e4]
              · rw [if_neg (fun w => c (by have := Sum.inl.inj w; omega))]
                refine hkn j z ?_ hzj
                rcases Nat.lt_or_ge j i with h | h
                · exact h
                · have : j = i := by omega
                  subst this
                  rw [hx] at hzj
                  cases hzj
                  exact absurd rfl c
          · rintro σ H3 ⟨kvs, v0, rfl, hd, hl3, s3, hk, hkn⟩
            have hm := q.all 1 (Nat.le_refl _) (by omega)
            rw [Nat.div_one] at hm
            obtain ⟨j, hj⟩ := List.getElem?_of_mem hm
            have hjL : j < L.length := (List.getElem?_eq_some_iff.mp hj).1
            have hv : vs.length = L.length := by rw [ea]; simp
            have g := DGet.k (k := (Sum.inl (n : Int) : Key)) hd
            rw [hkn j n (by omega) hj] at g
            refine ⟨_, rfl, _, rfl, d, _, rfl, g, k _ G H3 ⟨Same.refl _, s3, sg.trans s3, fun _ _ e => .inl e⟩ ?_⟩
            unfold Res
            rw [if_neg Bool.false_ne_true]
            have e : (n : Int).toNat = n := by omega
            rw [e]
            exact .int _
        · cases eM
      · cases eM
end VL

set_option Elab.async false
set_option linter.all false
set_option maxRecDepth 100000
set_option maxHeartbeats 4000000
set_option exponentiation.threshold 5000
namespace VL
open PySem L2
local macro_rules | `(tactic| walk_at "vl") => `(tactic| simp only [runD, goFor, goLc, mkEn_f, mkEn_t, mkEn_0, dSeq, dSet, dSetF, dRet, dRetF, dIf, dNx, dFor, dWhile, dPar, dAsg, dApp, dExt, dPut, dPop, dDrop, dPass, ghost, kill, fz, setT, setL, List.foldl_cons, List.foldl_nil, List.set_cons_zero, List.set_cons_succ, d1, d2, d3, rdO, rdE, rdS, rdF, dC, toB, ofB, dAnd, dOr, dNot, dAndV, dOrV, dNotV, dLc, dYes, wipeE, asL, asT, mul_ok, div_ok, mod_ok, add_ok, sub_ok, neg_ok, lt_ok, le_ok, gt_ok, ge_ok, eq_ok, ne_ok, isB_ok, nisB_ok, abs_ok, max2_ok, min2_ok, len_ok, lenT_ok, toList_ok, toInt_ok, rev_ok, eqPt_ok, nePt_ok, eqPts_ok, nePts_ok, eqInts_ok, neInts_ok, ix_p0, ix_p1, ix_l0, ix_l1, ix_l2, eq2_ok, ne2_ok, ix_t0, ix_t1, ix_t2, kIsiInt, kIsiBool, kIsiStr, kIsiList, kIsiTup, toT, toL, aCons, aNil, List.getElem?_cons_zero, List.getElem?_cons_succ, List.length_cons, List.length_nil, List.cons_append, List.nil_append, List.replicate, ↓reduceIte, Bool.false_eq_true, Bool.true_and, Bool.and_true, Bool.not_true, Bool.not_false, Bool.and_false, Bool.false_and, noL, kCall, List.length_map, List.length_append, Nat.sub_self, Nat.reduceSub, Nat.reduceAdd, Int.cast_ofNat_Int, Int.reduceEq, decide_true, decide_false, Nat.zero_add, Int.reduceLT, Int.reduceLE, Int.reduceAdd, Int.reduceNeg])
local macro_rules | `(tactic| walk_at "vlh") => `(tactic| simp only [runD, goFor, goLc, mkEn_f, mkEn_t, mkEn_0, dSeq, dSet, dSetF, dRet, dRetF, dIf, dNx, dFor, dWhile, dPar, dAsg, dApp, dExt, dPut, dPop, dDrop, dPass, ghost, kill, fz, setT, setL, List.foldl_cons, List.foldl_nil, List.set_cons_zero, List.set_cons_succ, d1, d2, d3, rdO, rdE, rdS, rdF, dC, toB, ofB, dAnd, dOr, dNot, dAndV, dOrV, dNotV, dLc, dYes, wipeE, asL, asT, mul_ok, div_ok, mod_ok, add_ok, sub_ok, neg_ok, lt_ok, le_ok, gt_ok, ge_ok, eq_ok, ne_ok, isB_ok, nisB_ok, abs_ok, max2_ok, min2_ok, len_ok, lenT_ok, toList_ok, toInt_ok, rev_ok, eqPt_ok, nePt_ok, eqPts_ok, nePts_ok, eqInts_ok, neInts_ok, ix_p0, ix_p1, ix_l0, ix_l1, ix_l2, eq2_ok, ne2_ok, ix_t0, ix_t1, ix_t2, kIsiInt, kIsiBool, kIsiStr, kIsiList, kIsiTup, toT, toL, aCons, aNil, List.getElem?_cons_zero, List.getElem?_cons_succ, List.length_cons, List.length_nil, List.cons_append, List.nil_append, List.replicate, ↓reduceIte, Bool.false_eq_true, Bool.true_and, Bool.and_true, Bool.not_true, Bool.not_false, Bool.and_false, Bool.false_and, noL, kCall, List.length_map, List.length_append, Nat.sub_self, Nat.reduceSub, Nat.reduceAdd, Int.cast_ofNat_Int, Int.reduceEq, decide_true, decide_false, Nat.zero_add, Int.reduceLT, Int.reduceLE, Int.reduceAdd, Int.reduceNeg, *])

theorem ok_small (n : Int) (h1 : 1 ≤ n) (h2 : n ≤ 20) : M__law_fanned [.int n] = some (.bool true) := by
  have h : n = 1 ∨ n = 2 ∨ n = 3 ∨ n = 4 ∨ n = 5 ∨ n = 6 ∨ n = 7 ∨ n = 8 ∨ n = 9 ∨ n = 10 ∨ n = 11 ∨ n = 12 ∨ n = 13 ∨ n = 14 ∨ n = 15 ∨ n = 16 ∨ n = 17 ∨ n = 18 ∨ n = 19 ∨ n = 20 := by omega
  rcases h with rfl | rfl | rfl | rfl | rfl | rfl | rfl | rfl | rfl | rfl | rfl | rfl | rfl | rfl | rfl | rfl | rfl | rfl | rfl | rfl
  · exact ok_1
  · exact ok_2
  · exact ok_3
  · exact ok_4
  · exact ok_5
  · exact ok_6
  · exact ok_7
  · exact ok_8
  · exact ok_9
  · exact ok_10
  · exact ok_11
  · exact ok_12
  · exact ok_13
  · exact ok_14
  · exact ok_15
  · exact ok_16
  · exact ok_17
  · exact ok_18
  · exact ok_19
  · exact ok_20
theorem counted_ok (n : Int) (h1 : 1 ≤ n) (h2 : n ≤ 10000) : ∃ t : Int, M_farey_count [.int n] = some (.int t) ∧ M__law_sieved [.int n] = some (.int t) := by
  obtain ⟨m, rfl⟩ : ∃ m : Nat, n = (m : Int) := ⟨n.toNat, by omega⟩
  refine ⟨((8 * Tot.Tot m : Nat) : Int), ?_, sieved_eq m (by omega) (by omega)⟩
  show (if 1 ≤ (m : Int) ∧ (m : Int) ≤ 10000 then some (PyData.int (8 * (Tot.Tot (m : Int).toNat : Nat))) else none) = _
  rw [if_pos ⟨h1, h2⟩]
  rfl
theorem same_self (t : Int) : M__law_same [.int t, .int t] = some (.bool true) := by
  have h := same_int 7 t t
  rw [decide_eq_true rfl] at h
  exact h
theorem law_true (ns : List Int) (h : ns.length ≤ 63) : M_law [.list (ns.map PyData.int)] = some (.bool true) := by
  obtain ⟨L, hl, hr, hd0⟩ := draws_ok ns 5 (by decide)
  have hd : M__law_draws [.list (ns.map PyData.int), .int 5] = some (nums L) := hd0
  clear hd0
  obtain ⟨d0, d1, d2', d3', d4, rfl⟩ : ∃ a b c d e, L = [a, b, c, d, e] := match L, hl with
    | [a, b, c, d, e], _ => ⟨a, b, c, d, e, rfl⟩
  clear hl
  have g0 := hr d0 (by simp)
  have g1 := hr d1 (by simp)
  have g2 := hr d2' (by simp)
  have g3 := hr d3' (by simp)
  have g4 := hr d4 (by simp)
  have x0 : kIx (nums [d0, d1, d2', d3', d4]) (.int 0) = some (.int d0) := ix_map PyData.int (atI_nat (j := 0) rfl)
  have x1 : kIx (nums [d0, d1, d2', d3', d4]) (.int 1) = some (.int d1) := ix_map PyData.int (atI_nat (j := 1) rfl)
  have x2 : kIx (nums [d0, d1, d2', d3', d4]) (.int 2) = some (.int d2') := ix_map PyData.int (atI_nat (j := 2) rfl)
  have x3 : kIx (nums [d0, d1, d2', d3', d4]) (.int 3) = some (.int d3') := ix_map PyData.int (atI_nat (j := 3) rfl)
  have x4 : kIx (nums [d0, d1, d2', d3', d4]) (.int 4) = some (.int d4) := ix_map PyData.int (atI_nat (j := 4) rfl)
  have p0 : kMod (.int d0) (.int 20) = _ := mod_ok (by omega)
  have p1 : kMod (.int d1) (.int 300) = _ := mod_ok (by omega)
  have p2 : kMod (.int d2') (.int 8) = _ := mod_ok (by omega)
  have p3 : kMod (.int d3') (.int 10000) = _ := mod_ok (by omega)
  have p4 : kMod (.int d4) (.int 8) = _ := mod_ok (by omega)
  have p5 : kMod (.int d4) (.int 3) = _ := mod_ok (by omega)
  have pw : kPow (.int 10) (.int 4) = some (.int 10000) := rfl
  have f0 := ok_small (1 + d0 % 20) (by omega) (by omega)
  have f1 := ok_small (1 + d4 % 8) (by omega) (by omega)
  have f2 := ok_small (1 + d4 % 3) (by omega) (by omega)
  obtain ⟨t0, c0, s0⟩ := counted_ok (1 + d0 % 20) (by omega) (by omega)
  obtain ⟨t1, c1, s1⟩ := counted_ok 1 (by omega) (by omega)
  obtain ⟨t2, c2, s2⟩ := counted_ok 2 (by omega) (by omega)
  obtain ⟨t3, c3, s3⟩ := counted_ok 3 (by omega) (by omega)
  obtain ⟨t4, c4, s4⟩ := counted_ok (1 + d1 % 300) (by omega) (by omega)
  obtain ⟨t5, c5, s5⟩ := counted_ok (1 + d3' % 10000) (by omega) (by omega)
  have ss := same_self
  unfold M_law b_law
  by_cases c : d2' % 8 = 3
  · clear g0 g1 g2 g3 g4 hr h
    walk_at "vlh"
  · clear g0 g1 g2 g3 g4 hr h
    walk_at "vlh"
end VL

set_option Elab.async false
set_option linter.all false
set_option maxRecDepth 100000
set_option maxHeartbeats 0
set_option exponentiation.threshold 5000
namespace VL
open PySem PySem.Spec PyProof.Rows L2
def d_first_eighth : He.DefD := ⟨("first_eighth", none), "first_eighth", "first_eighth", defArgs s_first_eighth, defBody s_first_eighth, defScope s_first_eighth, [], []⟩
def d_first_quarter : He.DefD := ⟨("first_quarter", none), "first_quarter", "first_quarter", defArgs s_first_quarter, defBody s_first_quarter, defScope s_first_quarter, [], []⟩
def d_farey_fan : He.DefD := ⟨("farey_fan", none), "farey_fan", "farey_fan", defArgs s_farey_fan, defBody s_farey_fan, defScope s_farey_fan, [], []⟩
def d_shares_with : He.DefD := ⟨("shares_with", none), "shares_with", "shares_with", defArgs s_shares_with, defBody s_shares_with, defScope s_shares_with, [], []⟩
def d_longer_vectors : He.DefD := ⟨("longer_vectors", none), "longer_vectors", "longer_vectors", defArgs s_longer_vectors, defBody s_longer_vectors, defScope s_longer_vectors, [], []⟩
def d_farey_count : He.DefD := ⟨("farey_count", none), "farey_count", "farey_count", defArgs s_farey_count, defBody s_farey_count, defScope s_farey_count, [], []⟩
def d_is_number : He.DefD := ⟨("is_number", none), "is_number", "is_number", defArgs s_is_number, defBody s_is_number, defScope s_is_number, [], []⟩
def d_is_number_tuple : He.DefD := ⟨("is_number_tuple", none), "is_number_tuple", "is_number_tuple", defArgs s_is_number_tuple, defBody s_is_number_tuple, defScope s_is_number_tuple, [], []⟩
def d_is_vector : He.DefD := ⟨("is_vector", none), "is_vector", "is_vector", defArgs s_is_vector, defBody s_is_vector, defScope s_is_vector, [], []⟩
def d_divisor_of : He.DefD := ⟨("divisor_of", none), "divisor_of", "divisor_of", defArgs s_divisor_of, defBody s_divisor_of, defScope s_divisor_of, [], []⟩
def d_is_primitive : He.DefD := ⟨("is_primitive", none), "is_primitive", "is_primitive", defArgs s_is_primitive, defBody s_is_primitive, defScope s_is_primitive, [], []⟩
def d_crossed : He.DefD := ⟨("crossed", none), "crossed", "crossed", defArgs s_crossed, defBody s_crossed, defScope s_crossed, [], []⟩
def d_is_upper : He.DefD := ⟨("is_upper", none), "is_upper", "is_upper", defArgs s_is_upper, defBody s_is_upper, defScope s_is_upper, [], []⟩
def d_step_products : He.DefD := ⟨("step_products", none), "step_products", "step_products", defArgs s_step_products, defBody s_step_products, defScope s_step_products, [], []⟩
def d_rounds : He.DefD := ⟨("rounds", none), "rounds", "rounds", defArgs s_rounds, defBody s_rounds, defScope s_rounds, [], []⟩
def d_is_fan : He.DefD := ⟨("is_fan", none), "is_fan", "is_fan", defArgs s_is_fan, defBody s_is_fan, defScope s_is_fan, [], []⟩
def d_is_smooth : He.DefD := ⟨("is_smooth", none), "is_smooth", "is_smooth", defArgs s_is_smooth, defBody s_is_smooth, defScope s_is_smooth, [], []⟩
def d_fan_numbers : He.DefD := ⟨("fan_numbers", none), "fan_numbers", "fan_numbers", defArgs s_fan_numbers, defBody s_fan_numbers, defScope s_fan_numbers, [], []⟩
def d__law_draws : He.DefD := ⟨("_law_draws", none), "_law_draws", "_law_draws", defArgs s__law_draws, defBody s__law_draws, defScope s__law_draws, [], []⟩
def d__law_is_number : He.DefD := ⟨("_law_is_number", none), "_law_is_number", "_law_is_number", defArgs s__law_is_number, defBody s__law_is_number, defScope s__law_is_number, [], []⟩
def d__law_is_tuple : He.DefD := ⟨("_law_is_tuple", none), "_law_is_tuple", "_law_is_tuple", defArgs s__law_is_tuple, defBody s__law_is_tuple, defScope s__law_is_tuple, [], []⟩
def d__law_is_pairs : He.DefD := ⟨("_law_is_pairs", none), "_law_is_pairs", "_law_is_pairs", defArgs s__law_is_pairs, defBody s__law_is_pairs, defScope s__law_is_pairs, [], []⟩
def d__law_is_numbers : He.DefD := ⟨("_law_is_numbers", none), "_law_is_numbers", "_law_is_numbers", defArgs s__law_is_numbers, defBody s__law_is_numbers, defScope s__law_is_numbers, [], []⟩
def d__law_same : He.DefD := ⟨("_law_same", none), "_law_same", "_law_same", defArgs s__law_same, defBody s__law_same, defScope s__law_same, [], []⟩
def d__law_gcd : He.DefD := ⟨("_law_gcd", none), "_law_gcd", "_law_gcd", defArgs s__law_gcd, defBody s__law_gcd, defScope s__law_gcd, [], []⟩
def d__law_cross : He.DefD := ⟨("_law_cross", none), "_law_cross", "_law_cross", defArgs s__law_cross, defBody s__law_cross, defScope s__law_cross, [], []⟩
def d__law_many : He.DefD := ⟨("_law_many", none), "_law_many", "_law_many", defArgs s__law_many, defBody s__law_many, defScope s__law_many, [], []⟩
def d__law_sieved : He.DefD := ⟨("_law_sieved", none), "_law_sieved", "_law_sieved", defArgs s__law_sieved, defBody s__law_sieved, defScope s__law_sieved, [], []⟩
def d__law_goes_round : He.DefD := ⟨("_law_goes_round", none), "_law_goes_round", "_law_goes_round", defArgs s__law_goes_round, defBody s__law_goes_round, defScope s__law_goes_round, [], []⟩
def d__law_in_part : He.DefD := ⟨("_law_in_part", none), "_law_in_part", "_law_in_part", defArgs s__law_in_part, defBody s__law_in_part, defScope s__law_in_part, [], []⟩
def d__law_numbered : He.DefD := ⟨("_law_numbered", none), "_law_numbered", "_law_numbered", defArgs s__law_numbered, defBody s__law_numbered, defScope s__law_numbered, [], []⟩
def d__law_fanned : He.DefD := ⟨("_law_fanned", none), "_law_fanned", "_law_fanned", defArgs s__law_fanned, defBody s__law_fanned, defScope s__law_fanned, [], []⟩
def d_law : He.DefD := ⟨("law", none), "law", "law", defArgs s_law, defBody s_law, defScope s_law, [], []⟩
def fnL_0 : List He.DefD := [d_first_eighth, d_first_quarter, d_farey_fan, d_shares_with, d_longer_vectors, d_farey_count, d_is_number, d_is_number_tuple, d_is_vector, d_divisor_of, d_is_primitive, d_crossed, d_is_upper, d_step_products, d_rounds, d_is_fan, d_is_smooth, d_fan_numbers, d__law_draws, d__law_is_number, d__law_is_tuple, d__law_is_pairs, d__law_is_numbers, d__law_same, d__law_gcd, d__law_cross, d__law_many, d__law_sieved, d__law_goes_round, d__law_in_part, d__law_numbered, d__law_fanned, d_law]
def fnL : List He.DefD := fnL_0
def faL_0 : List He.Fa := [.glo "first_eighth", .glo "first_quarter", .glo "farey_fan", .glo "shares_with", .glo "longer_vectors", .glo "farey_count", .glo "is_number", .glo "is_number_tuple", .glo "is_vector", .glo "divisor_of", .glo "is_primitive", .glo "crossed", .glo "is_upper", .glo "step_products", .glo "rounds", .glo "is_fan", .glo "is_smooth", .glo "fan_numbers", .glo "_law_draws", .glo "_law_is_number", .glo "_law_is_tuple", .glo "_law_is_pairs", .glo "_law_is_numbers", .glo "_law_same", .glo "_law_gcd", .glo "_law_cross", .glo "_law_many", .glo "_law_sieved", .glo "_law_goes_round", .glo "_law_in_part", .glo "_law_numbered", .glo "_law_fanned", .glo "law", .free "list", .free "range"]
def faL_1 : List He.Fa := [.free "len", .free "isinstance", .free "int", .free "bool", .free "tuple", .free "abs", .free "min", .free "max", .free "str", .free "sum"]
def faL : List He.Fa := faL_0 ++ faL_1
def looseL_0 : List Str := ["first_eighth", "first_quarter", "farey_fan", "shares_with", "longer_vectors", "farey_count", "is_number", "is_number_tuple", "is_vector", "divisor_of", "is_primitive", "crossed", "is_upper", "step_products", "rounds", "is_fan", "is_smooth", "fan_numbers", "_law_draws", "_law_is_number", "_law_is_tuple", "_law_is_pairs", "_law_is_numbers", "_law_same", "_law_gcd", "_law_cross", "_law_many", "_law_sieved", "_law_goes_round", "_law_in_part", "_law_numbered", "_law_fanned"]
def looseL : List Str := looseL_0
abbrev R : PySem.W.OpenRow := PySem.W.OpenLaw.row PySem.Challenge.rw_gridplots_k43_farey_fans
abbrev hk : PySem.W.Hook := He.hookD 4 faL fnL
def ob (s : PySem.W.SharedT) : He.AlD := He.obsDG 4 faL fnL (HandSHeadRun.getT s)
theorem ob_eq (s : PySem.W.SharedT) : ob s = hk.obs s.abs := He.obsDG_eq (HandSHeadRun.getT_eq s)
theorem run (w : World) : HandSHeadRun.RunEq R (PySem.W.view R.prog [37]) hk ob 4000 looseL w := by
  intro os
  kernel_rfl
theorem facts {P : Program} {w : World} {K : PySem.W.Frag} {h : Heap} {mg : Str → Option Value} {f : Addr} (X : K.In h) (G : h.Ns mainGlobals mg) (hfa : mg ("law" : Str) = some (.ref f)) (c : He.SaysD faL fnL K) :
    ∃ fd : FuncData, (∀ (s : Shared) (v : Value), BindsTo s fd ⟨[v], []⟩ [("script", v)]) ∧ ∀ base : Heap, K.In base → base.Ns mainGlobals mg → FnOk P w K mg base CX0 12 f fd ["script"] (spV K false [true] M_law) := by
  obtain ⟨fd_first_eighth, F_first_eighth⟩ := c.def_ 0 (d := d_first_eighth) rfl
  have m_first_eighth := He.glo_ok X G (c.fact 0 (f := .glo "first_eighth") rfl)
  obtain ⟨fd_first_quarter, F_first_quarter⟩ := c.def_ 1 (d := d_first_quarter) rfl
  have m_first_quarter := He.glo_ok X G (c.fact 1 (f := .glo "first_quarter") rfl)
  obtain ⟨fd_farey_fan, F_farey_fan⟩ := c.def_ 2 (d := d_farey_fan) rfl
  have m_farey_fan := He.glo_ok X G (c.fact 2 (f := .glo "farey_fan") rfl)
  obtain ⟨fd_shares_with, F_shares_with⟩ := c.def_ 3 (d := d_shares_with) rfl
  have m_shares_with := He.glo_ok X G (c.fact 3 (f := .glo "shares_with") rfl)
  obtain ⟨fd_longer_vectors, F_longer_vectors⟩ := c.def_ 4 (d := d_longer_vectors) rfl
  have m_longer_vectors := He.glo_ok X G (c.fact 4 (f := .glo "longer_vectors") rfl)
  obtain ⟨fd_farey_count, F_farey_count⟩ := c.def_ 5 (d := d_farey_count) rfl
  have m_farey_count := He.glo_ok X G (c.fact 5 (f := .glo "farey_count") rfl)
  obtain ⟨fd_is_number, F_is_number⟩ := c.def_ 6 (d := d_is_number) rfl
  have m_is_number := He.glo_ok X G (c.fact 6 (f := .glo "is_number") rfl)
  obtain ⟨fd_is_number_tuple, F_is_number_tuple⟩ := c.def_ 7 (d := d_is_number_tuple) rfl
  have m_is_number_tuple := He.glo_ok X G (c.fact 7 (f := .glo "is_number_tuple") rfl)
  obtain ⟨fd_is_vector, F_is_vector⟩ := c.def_ 8 (d := d_is_vector) rfl
  have m_is_vector := He.glo_ok X G (c.fact 8 (f := .glo "is_vector") rfl)
  obtain ⟨fd_divisor_of, F_divisor_of⟩ := c.def_ 9 (d := d_divisor_of) rfl
  have m_divisor_of := He.glo_ok X G (c.fact 9 (f := .glo "divisor_of") rfl)
  obtain ⟨fd_is_primitive, F_is_primitive⟩ := c.def_ 10 (d := d_is_primitive) rfl
  have m_is_primitive := He.glo_ok X G (c.fact 10 (f := .glo "is_primitive") rfl)
  obtain ⟨fd_crossed, F_crossed⟩ := c.def_ 11 (d := d_crossed) rfl
  have m_crossed := He.glo_ok X G (c.fact 11 (f := .glo "crossed") rfl)
  obtain ⟨fd_is_upper, F_is_upper⟩ := c.def_ 12 (d := d_is_upper) rfl
  have m_is_upper := He.glo_ok X G (c.fact 12 (f := .glo "is_upper") rfl)
  obtain ⟨fd_step_products, F_step_products⟩ := c.def_ 13 (d := d_step_products) rfl
  have m_step_products := He.glo_ok X G (c.fact 13 (f := .glo "step_products") rfl)
  obtain ⟨fd_rounds, F_rounds⟩ := c.def_ 14 (d := d_rounds) rfl
  have m_rounds := He.glo_ok X G (c.fact 14 (f := .glo "rounds") rfl)
  obtain ⟨fd_is_fan, F_is_fan⟩ := c.def_ 15 (d := d_is_fan) rfl
  have m_is_fan := He.glo_ok X G (c.fact 15 (f := .glo "is_fan") rfl)
  obtain ⟨fd_is_smooth, F_is_smooth⟩ := c.def_ 16 (d := d_is_smooth) rfl
  have m_is_smooth := He.glo_ok X G (c.fact 16 (f := .glo "is_smooth") rfl)
  obtain ⟨fd_fan_numbers, F_fan_numbers⟩ := c.def_ 17 (d := d_fan_numbers) rfl
  have m_fan_numbers := He.glo_ok X G (c.fact 17 (f := .glo "fan_numbers") rfl)
  obtain ⟨fd__law_draws, F__law_draws⟩ := c.def_ 18 (d := d__law_draws) rfl
  have m__law_draws := He.glo_ok X G (c.fact 18 (f := .glo "_law_draws") rfl)
  obtain ⟨fd__law_is_number, F__law_is_number⟩ := c.def_ 19 (d := d__law_is_number) rfl
  have m__law_is_number := He.glo_ok X G (c.fact 19 (f := .glo "_law_is_number") rfl)
  obtain ⟨fd__law_is_tuple, F__law_is_tuple⟩ := c.def_ 20 (d := d__law_is_tuple) rfl
  have m__law_is_tuple := He.glo_ok X G (c.fact 20 (f := .glo "_law_is_tuple") rfl)
  obtain ⟨fd__law_is_pairs, F__law_is_pairs⟩ := c.def_ 21 (d := d__law_is_pairs) rfl
  have m__law_is_pairs := He.glo_ok X G (c.fact 21 (f := .glo "_law_is_pairs") rfl)
  obtain ⟨fd__law_is_numbers, F__law_is_numbers⟩ := c.def_ 22 (d := d__law_is_numbers) rfl
  have m__law_is_numbers := He.glo_ok X G (c.fact 22 (f := .glo "_law_is_numbers") rfl)
  obtain ⟨fd__law_same, F__law_same⟩ := c.def_ 23 (d := d__law_same) rfl
  have m__law_same := He.glo_ok X G (c.fact 23 (f := .glo "_law_same") rfl)
  obtain ⟨fd__law_gcd, F__law_gcd⟩ := c.def_ 24 (d := d__law_gcd) rfl
  have m__law_gcd := He.glo_ok X G (c.fact 24 (f := .glo "_law_gcd") rfl)
  obtain ⟨fd__law_cross, F__law_cross⟩ := c.def_ 25 (d := d__law_cross) rfl
  have m__law_cross := He.glo_ok X G (c.fact 25 (f := .glo "_law_cross") rfl)
  obtain ⟨fd__law_many, F__law_many⟩ := c.def_ 26 (d := d__law_many) rfl
  have m__law_many := He.glo_ok X G (c.fact 26 (f := .glo "_law_many") rfl)
  obtain ⟨fd__law_sieved, F__law_sieved⟩ := c.def_ 27 (d := d__law_sieved) rfl
  have m__law_sieved := He.glo_ok X G (c.fact 27 (f := .glo "_law_sieved") rfl)
  obtain ⟨fd__law_goes_round, F__law_goes_round⟩ := c.def_ 28 (d := d__law_goes_round) rfl
  have m__law_goes_round := He.glo_ok X G (c.fact 28 (f := .glo "_law_goes_round") rfl)
  obtain ⟨fd__law_in_part, F__law_in_part⟩ := c.def_ 29 (d := d__law_in_part) rfl
  have m__law_in_part := He.glo_ok X G (c.fact 29 (f := .glo "_law_in_part") rfl)
  obtain ⟨fd__law_numbered, F__law_numbered⟩ := c.def_ 30 (d := d__law_numbered) rfl
  have m__law_numbered := He.glo_ok X G (c.fact 30 (f := .glo "_law_numbered") rfl)
  obtain ⟨fd__law_fanned, F__law_fanned⟩ := c.def_ 31 (d := d__law_fanned) rfl
  have m__law_fanned := He.glo_ok X G (c.fact 31 (f := .glo "_law_fanned") rfl)
  obtain ⟨fd_law, F_law⟩ := c.def_ 32 (d := d_law) rfl
  have m_law := He.glo_ok X G (c.fact 32 (f := .glo "law") rfl)
  have g_list := He.free_ok X G (c.fact 33 (f := .free "list") rfl)
  have g_range := He.free_ok X G (c.fact 34 (f := .free "range") rfl)
  have g_len := He.free_ok X G (c.fact 35 (f := .free "len") rfl)
  have g_isinstance := He.free_ok X G (c.fact 36 (f := .free "isinstance") rfl)
  have g_int := He.free_ok X G (c.fact 37 (f := .free "int") rfl)
  have g_bool := He.free_ok X G (c.fact 38 (f := .free "bool") rfl)
  have g_tuple := He.free_ok X G (c.fact 39 (f := .free "tuple") rfl)
  have g_abs := He.free_ok X G (c.fact 40 (f := .free "abs") rfl)
  have g_min := He.free_ok X G (c.fact 41 (f := .free "min") rfl)
  have g_max := He.free_ok X G (c.fact 42 (f := .free "max") rfl)
  have g_str := He.free_ok X G (c.fact 43 (f := .free "str") rfl)
  have g_sum := He.free_ok X G (c.fact 44 (f := .free "sum") rfl)
  have e := hfa.symm.trans m_law
  cases e
  refine ⟨fd_law, fun s v => FunD.bindsA (ps := ["script"]) F_law (fun _ _ _ _ _ _ => by1 fun _ => rfl) s [v] rfl, fun base _ _ => ?_⟩
  have c_first_eighth := k_first_eighth (P := P) (w := w) (base := base) F_first_eighth m_first_eighth
  have c_first_quarter := k_first_quarter (P := P) (w := w) (base := base) F_first_quarter m_first_quarter g_list g_range g_len c_first_eighth
  have c_farey_fan := k_farey_fan (P := P) (w := w) (base := base) F_farey_fan m_farey_fan g_range c_first_quarter
  have c_shares_with := k_shares_with (P := P) (w := w) (base := base) F_shares_with m_shares_with
  have c_farey_count := k_farey_count (P := P) (w := w) (base := base) F_farey_count m_farey_count F_longer_vectors m_longer_vectors c_shares_with
  have c_is_number := k_is_number (P := P) (w := w) (base := base) F_is_number m_is_number g_isinstance g_int g_bool
  have c_is_number_tuple := k_is_number_tuple (P := P) (w := w) (base := base) F_is_number_tuple m_is_number_tuple g_isinstance g_tuple g_len c_is_number
  have c_is_vector := k_is_vector (P := P) (w := w) (base := base) F_is_vector m_is_vector c_is_number_tuple
  have c_divisor_of := k_divisor_of (P := P) (w := w) (base := base) F_divisor_of m_divisor_of g_abs
  have c_is_primitive := k_is_primitive (P := P) (w := w) (base := base) F_is_primitive m_is_primitive c_divisor_of
  have c_crossed := k_crossed (P := P) (w := w) (base := base) F_crossed m_crossed
  have c_is_upper := k_is_upper (P := P) (w := w) (base := base) F_is_upper m_is_upper
  have c_step_products := k_step_products (P := P) (w := w) (base := base) F_step_products m_step_products g_range g_len c_crossed
  have c_rounds := k_rounds (P := P) (w := w) (base := base) F_rounds m_rounds g_range g_len c_is_upper
  have c_is_fan := k_is_fan (P := P) (w := w) (base := base) F_is_fan m_is_fan g_isinstance g_list g_len g_min c_is_vector c_is_primitive c_step_products c_rounds
  have c_is_smooth := k_is_smooth (P := P) (w := w) (base := base) F_is_smooth m_is_smooth g_max c_step_products
  have c_fan_numbers := k_fan_numbers (P := P) (w := w) (base := base) F_fan_numbers m_fan_numbers g_len g_range c_crossed
  have c__law_draws := k__law_draws (P := P) (w := w) (base := base) F__law_draws m__law_draws g_abs g_int g_range g_len
  have c__law_is_number := k__law_is_number (P := P) (w := w) (base := base) F__law_is_number m__law_is_number g_isinstance g_int g_bool
  have c__law_is_tuple := k__law_is_tuple (P := P) (w := w) (base := base) F__law_is_tuple m__law_is_tuple g_isinstance g_tuple g_len c__law_is_number
  have c__law_is_pairs := k__law_is_pairs (P := P) (w := w) (base := base) F__law_is_pairs m__law_is_pairs g_isinstance g_list c__law_is_tuple
  have c__law_is_numbers := k__law_is_numbers (P := P) (w := w) (base := base) F__law_is_numbers m__law_is_numbers g_isinstance g_list c__law_is_number
  have c__law_same := k__law_same (P := P) (w := w) (base := base) F__law_same m__law_same g_isinstance g_bool g_int g_str g_tuple g_list g_len g_range c__law_is_number
  have c__law_gcd := k__law_gcd (P := P) (w := w) (base := base) F__law_gcd m__law_gcd g_abs
  have c__law_cross := k__law_cross (P := P) (w := w) (base := base) F__law_cross m__law_cross
  have c__law_many := k__law_many (P := P) (w := w) (base := base) F__law_many m__law_many g_range c__law_gcd
  have c__law_sieved := k__law_sieved (P := P) (w := w) (base := base) F__law_sieved m__law_sieved g_list g_range g_sum
  have c__law_goes_round := k__law_goes_round (P := P) (w := w) (base := base) F__law_goes_round m__law_goes_round g_range g_len c__law_cross
  have c__law_in_part := k__law_in_part (P := P) (w := w) (base := base) F__law_in_part m__law_in_part g_range
  have c__law_numbered := k__law_numbered (P := P) (w := w) (base := base) F__law_numbered m__law_numbered g_list g_len g_range g_max g_abs c_is_fan c_is_smooth c_fan_numbers c__law_is_numbers c__law_in_part
  have c__law_fanned := k__law_fanned (P := P) (w := w) (base := base) F__law_fanned m__law_fanned g_len g_max g_abs g_list c_farey_fan c__law_is_pairs c__law_many c__law_goes_round c__law_same c_farey_count c__law_numbered
  exact k_law F_law c__law_draws c__law_fanned c__law_same c__law_sieved c_farey_count
end VL
open PySem PySem.W PySem.Calls PyProof.Rows
set_option maxHeartbeats 0 in
theorem PySem.Challenge.cw_gridplots_k43_farey_fans_holds : PySem.Challenge.rw_gridplots_k43_farey_fans.Holds := by
  w_on; o_law
  refine HandSHeadRun.head_any (r := OpenLaw.row PySem.Challenge.rw_gridplots_k43_farey_fans) (q := view (OpenLaw.row PySem.Challenge.rw_gridplots_k43_farey_fans).prog [37]) (H := VL.hk) (ob := VL.ob) (M := 4000) (loose := VL.looseL) (d := HandSHeadRun.topDef (OpenLaw.row PySem.Challenge.rw_gridplots_k43_farey_fans).prog 37) (kwd := []) VL.ob_eq
    (by kernel_rfl) (fun s => by kernel_rfl) VL.run (by kernel_rfl) (by kernel_rfl) (by kernel_rfl) (by rfl) (by first | assumption | decide +kernel) (by decide +kernel) ⟨rfl, rfl, rfl, rfl, rfl, by decide +kernel⟩ ?hw ?hc
  case hw => w_witness2
  case hc =>
    refine L2.walk_ofE (l := PySem.Challenge.rw_gridplots_k43_farey_fans) (n := 63) (k := 12) (x := "script") (CX := L2.CX0) rfl (by decide) (by kernel_rfl) ⟨rfl, by decide, by decide⟩ ?F (fun _ _ _ _ z => z)
    intro w mg fa h Y G hmg0
    obtain ⟨K, KX, c⟩ := Y
    have hmg : mg ("law" : PySem.Str) = some (.ref fa) := by
      have e : (HandSHeadRun.topDef (OpenLaw.row PySem.Challenge.rw_gridplots_k43_farey_fans).prog 37).name = ("law" : PySem.Str) := by kernel_rfl
      rw [← e]
      exact hmg0
    obtain ⟨fd, hb, hF⟩ := VL.facts (P := (PySem.Challenge.rw_gridplots_k43_farey_fans).prog) (w := w) KX G hmg c
    exact ⟨K, fd, VL.spV K false [true] VL.M_law, KX, hb, fun H a ns hl _ hS => VL.enter (VL.law_true ns hl) hS, hF⟩
